import PyProof.Rows.All
import Wide.All
import OpenK.AllK
import Wide.FinOn
import HandS.ForMost
import HandS.Iter
import HandS.ForExc
import HandS.TupAny
import HandS.Wide
import HandS.TupMul
import HandS.Gcd
import HandS.IsInst
import HandS.SetFor
import HandS.Strs
import HandS.SortInts
import HandS.Flt
import PyProof.ReprRoads
import HandS.Defaults
import HandS.Style
import HandS.Exc
import KE.GoesEnum
import HandS.Zip
import HandS.Rev
import HandS.HeadHook1
import KE.KSuper
import KE.KExcSuper
import HandS.ExcInit
import HandS.WordsExc
import HandS.ExcIs
import PyProof.FactsLen
import PyProof.CollectWalk
import PyProof.ListNew
import KE.KDictZip
import HandS.Ends
import HandS.HeadEnd
import HandS.WideBits
import HandS.Dict
import HandS.Evl
import KE.KStateDown
import KE.OsRun
import HandS.More
import HandS.Words
import HandS.Head0
import HandS.Head1
import HandS.Head2
import HandS.HeadHook2
import PyProof.ReprLen
import PyProof.Rows.RegStrFacts
import PySem.Challenge.RW_unsureworks_k47_sayings_and_their_contra
set_option Elab.async false
set_option linter.all false
set_option maxRecDepth 100000
set_option maxHeartbeats 4000000
section
/-! Un: a small language over plain data, its meaning as what must hold ahead (a predicate of the wish behind). -/
namespace Un
open PySem

/-- what an expression comes to: data; a list that nobody holds yet; a list that a slot holds; the law's source of numbers -/
inductive AV where
  | d (x : PyData) | new (xs : List PyData) | bor (xs : List PyData) | src
/-- what a slot holds -/
inductive SV where
  | un | d (x : PyData) | own (xs : List PyData) | src | scr
def AV.dat? : AV → Option PyData
  | .d x => some x
  | .new xs => some (.list xs)
  | .bor xs => some (.list xs)
  | .src => none
/-- the items of what is unpacked -/
def AV.items? : AV → Option (List PyData)
  | .d (.tuple xs) => some xs
  | .d (.list xs) => some xs
  | .new xs => some xs
  | .bor xs => some xs
  | _ => none
/-- what may be laid into another thing -/
def AV.emb? : AV → Option PyData
  | .d x => some x
  | .new xs => some (.list xs)
  | _ => none
def argOf : AV → SV
  | .d x => .d x
  | .new xs => .d (.list xs)
  | .bor xs => .d (.list xs)
  | .src => .src
def AV.isBor : AV → Bool
  | .bor _ => true
  | _ => false
mutual
/-- no list within -/
def bare : PyData → Bool
  | .list _ => false
  | .dict _ => false
  | .tuple xs => bareAll xs
  | _ => true
def bareAll : List PyData → Bool
  | [] => true
  | x :: xs => bare x && bareAll xs
end
def embs? : List AV → Option (List PyData)
  | [] => some []
  | a :: r => match a.emb?, embs? r with
    | some x, some xs => some (x :: xs)
    | _, _ => none


inductive O2 where
  | add | sub | mul | fdiv | mod | pow | eq | ne | lt | le | gt | ge | idx | inn | nin
inductive O1 where
  | neg | isN | notN | len | int | abs | repr | list | tuple | all | any | isInt | isBool | isTuple | isStr | sum | sset | srt
inductive O3 where
  | max | min | gcd
inductive Tg where
  | nm (i : Nat) | tp (ts : List Nat)
inductive E where
  | dat (d : PyData)
  | scr (i : Nat)
  | var (i : Nat)
  | bin (o : O2) (a b : E)
  | un (o : O1) (a : E)
  | fn2 (o : O3) (a b : E)
  | max3 (a b c : E)
  | band (a b : E) | bor (a b : E) | bnot (a : E)
  | ife (c a b : E)
  | tup (es : E) | lst (es : E)
  | slc (a lo hi : E)
  | zl (es : E)
  | rev (a : E)
  | call (f : Nat) (perm : List Nat) (es ks : E)
  | cmp (own : List Nat) (elt : E) (tg : Tg) (it : E) (c : E)
  | rng1 (a : E) | rng2 (a b : E) | rng3 (a b c : E) | enu (a : E) | zip2 (a b : E) | rvd (a : E)
  | no | nil | cons (a r : E)
/-- an error's number (1 ..) and a class's: 0 all of the package, 1000 ValueError -/
def hitE (c d : Nat) : Bool := d == 0 || (d == 1000 || c == d)
/-- a test within an except suite: isinstance of the error caught; the suite's own slot -/
inductive Ue where
  | isi (d : Nat) | isT (ds : List Nat) | own | and (a b : Ue) | not (a : Ue)
def Ue.val (c : Nat) (o : Bool) : Ue → Bool
  | .isi d => hitE c d
  | .isT ds => ds.any (hitE c)
  | .own => o
  | .and a b => a.val c o && b.val c o
  | .not a => !a.val c o
/-- an except suite: what it gives back -/
inductive Su where
  | ret (z : Str) | cond (j : Nat) (o t : Ue) (a b : Str)
def Su.ans (c : Nat) : Su → Str
  | .ret z => z
  | .cond _ o t a b => if t.val c (o.val c false) = true then a else b
inductive Sm where
  | set (i : Nat) (e : E)
  | unp (is : List Nat) (e : E)
  | par (is : List Nat) (es : E)
  | put (i : Nat) (j e : E)
  | app (i : Nat) (e : E)
  | ret (e : E) | retN
  | drop (e : E)
  | ifs (c : E) (a b : Sm)
  | loop (tg : Tg) (it : E) (b : Sm)
  | whl (c : E) (b : Sm)
  | brk | cnt | pass
  | frz (i : Nat)
  | rse
  | rs (c : Nat) | tryx (b : Sm) (c i : Nat) (su : Su)
  | nil | cons (s r : Sm)

abbrev KA := AV → Prop
/-- what is wanted of an error: its class by number, its fields -/
abbrev KX := Nat → List PyData → Prop
abbrev FE := Nat → List SV → KA → KX → Prop

/-! ### by values -/
def MulOk (i j : Int) : Prop := (-(2 ^ 64) < i ∧ i < 2 ^ 64) ∨ (-(2 ^ 64) < j ∧ j < 2 ^ 64) ∨ i.natAbs.log2 + j.natAbs.log2 < 1000000
def DivOk (j : Int) : Prop := j ≠ 0 ∧ j.natAbs.log2 < 9000
def PowOk (i j : Int) : Prop := 0 ≤ j ∧ j ≤ 1000000 ∧ i.natAbs < 2 ^ 64
abbrev ixOf : Nat → Int → Option Nat := L2.ixN
abbrev atIx {α : Type} (xs : List α) (i : Int) : Option α := L2.atI xs i
def strsOf : List PyData → Option (List Str)
  | [] => some []
  | .str z :: r => (strsOf r).map (z :: ·)
  | _ :: _ => none
def intsOf : List PyData → Option (List Int)
  | [] => some []
  | .int i :: r => (intsOf r).map (i :: ·)
  | _ :: _ => none
/-- a text among texts, a number among numbers -/
def innW (x : PyData) (ys : List PyData) (k : Bool → Prop) : Prop := (∃ z zs, x = .str z ∧ strsOf ys = some zs ∧ k (decide (z ∈ zs))) ∨ (∃ i ns, x = .int i ∧ intsOf ys = some ns ∧ k (decide (i ∈ ns)))
def shp (d : PyData) : Prop := SeqAt.shaped d = true
def b2 (o : O2) (x y : PyData) (k : KA) : Prop :=
  match o with
  | .add => (match x, y with
    | .int i, .int j => k (.d (.int (i + j)))
    | .str a, .str b => a.length + b.length ≤ sizeLine ∧ k (.d (.str (a ++ b)))
    | .list xs, .list ys => xs.length + ys.length ≤ sizeLine ∧ k (.new (xs ++ ys))
    | .tuple xs, .tuple ys => xs.length + ys.length ≤ sizeLine ∧ k (.d (.tuple (xs ++ ys)))
    | _, _ => False)
  | .sub => (match x, y with
    | .int i, .int j => k (.d (.int (i - j)))
    | _, _ => False)
  | .mul => (match x, y with
    | .int i, .int j => MulOk i j ∧ k (.d (.int (i * j)))
    | .list xs, .int n => (-(2 ^ 63) ≤ n ∧ n < 2 ^ 63 ∧ xs.length * n.toNat ≤ sizeLine) ∧ k (.new (List.replicate n.toNat xs).flatten)
    | .tuple xs, .int n => (-(2 ^ 63) ≤ n ∧ n < 2 ^ 63 ∧ xs.length * n.toNat ≤ sizeLine) ∧ k (.d (.tuple (List.replicate n.toNat xs).flatten))
    | _, _ => False)
  | .fdiv => (match x, y with
    | .int i, .int j => DivOk j ∧ k (.d (.int (i.fdiv j)))
    | _, _ => False)
  | .mod => (match x, y with
    | .int i, .int j => j ≠ 0 ∧ k (.d (.int (i.fmod j)))
    | _, _ => False)
  | .pow => (match x, y with
    | .int i, .int j => PowOk i j ∧ k (.d (.int (i ^ j.toNat)))
    | _, _ => False)
  | .eq => (match x, y with
    | .str a, .str b => k (.d (.bool (decide (a = b))))
    | _, _ => shp x ∧ shp y ∧ k (.d (.bool (PyData.eqv x y))))
  | .ne => (match x, y with
    | .str a, .str b => k (.d (.bool (!decide (a = b))))
    | _, _ => shp x ∧ shp y ∧ k (.d (.bool (!PyData.eqv x y))))
  | .lt => (match x, y with
    | .int i, .int j => k (.d (.bool (decide (i < j))))
    | _, _ => False)
  | .le => (match x, y with
    | .int i, .int j => k (.d (.bool (decide (i ≤ j))))
    | _, _ => False)
  | .gt => (match x, y with
    | .int i, .int j => k (.d (.bool (decide (j < i))))
    | _, _ => False)
  | .ge => (match x, y with
    | .int i, .int j => k (.d (.bool (decide (j ≤ i))))
    | _, _ => False)
  | .idx => (match x, y with
    | .list xs, .int i => ∃ v, atIx xs i = some v ∧ k (.d v)
    | .tuple xs, .int i => ∃ v, atIx xs i = some v ∧ k (.d v)
    | _, _ => False)
  | .inn => (match y with
    | .list ys => innW x ys fun b => k (.d (.bool b))
    | .tuple ys => innW x ys fun b => k (.d (.bool b))
    | _ => False)
  | .nin => (match y with
    | .list ys => innW x ys fun b => k (.d (.bool (!b)))
    | .tuple ys => innW x ys fun b => k (.d (.bool (!b)))
    | _ => False)
def w2 (o : O2) (a b : AV) (k : KA) : Prop := ∃ x y, a.dat? = some x ∧ b.dat? = some y ∧ b2 o x y k
def boolsOf : List PyData → Option (List Bool)
  | [] => some []
  | .bool b :: r => (boolsOf r).map (b :: ·)
  | _ :: _ => none
/-- a number among ascending ones -/
def insI (k : Int) : List Int → List Int
  | [] => [k]
  | a :: l => if k < a then k :: a :: l else if k = a then a :: l else a :: insI k l
/-- ascending, each once -/
def srtI : List Int → List Int
  | [] => []
  | k :: l => insI k (srtI l)
def ShowOk (d : PyData) : Prop := d.showable = true ∧ d.hasDict = false ∧ d.depth ≤ 64 ∧ d.shown.length ≤ sizeLine
def b1 (o : O1) (x : PyData) (k : KA) : Prop :=
  match o with
  | .neg => (match x with
    | .int i => k (.d (.int (-i)))
    | _ => False)
  | .isN => (match x with
    | .none => k (.d (.bool true))
    | _ => k (.d (.bool false)))
  | .notN => (match x with
    | .none => k (.d (.bool false))
    | _ => k (.d (.bool true)))
  | .len => (match x with
    | .list xs => k (.d (.int xs.length))
    | .tuple xs => k (.d (.int xs.length))
    | .str z => z.length ≤ sizeLine ∧ k (.d (.int z.length))
    | _ => False)
  | .int => (match x with
    | .int i => k (.d (.int i))
    | .bool b => k (.d (.int (if b then 1 else 0)))
    | _ => False)
  | .abs => (match x with
    | .int i => k (.d (.int (if i < 0 then -i else i)))
    | _ => False)
  | .repr => ShowOk x ∧ k (.d (.str x.shown))
  | .list => (match x with
    | .list xs => k (.new xs)
    | .tuple xs => k (.new xs)
    | _ => False)
  | .tuple => (match x with
    | .list xs => k (.d (.tuple xs))
    | .tuple xs => k (.d (.tuple xs))
    | _ => False)
  | .all => (match x with
    | .list xs => ∃ bs, boolsOf xs = some bs ∧ k (.d (.bool (bs.all id)))
    | _ => False)
  | .any => (match x with
    | .list xs => ∃ bs, boolsOf xs = some bs ∧ k (.d (.bool (bs.any id)))
    | _ => False)
  | .sum => (match x with
    | .list xs => ∃ ns, intsOf xs = some ns ∧ k (.d (.int ns.sum))
    | _ => False)
  | .sset => (match x with
    | .list xs => ∃ ns, intsOf xs = some ns ∧ ns.length < 64 ∧ k (.new ((srtI ns).map PyData.int))
    | _ => False)
  | .srt => (match x with
    | .list xs => (∃ ns, intsOf xs = some ns ∧ ∀ ns' : List Int, ns'.Perm ns → ns'.Pairwise (· ≤ ·) → k (.new (ns'.map PyData.int))) ∨
      (∃ bs, boolsOf xs = some bs ∧ ∀ bs' : List Bool, bs'.Perm bs → bs'.Pairwise (fun a b => a = true → b = true) → k (.new (bs'.map PyData.bool)))
    | _ => False)
  | .isInt => (match x with
    | .int _ => k (.d (.bool true))
    | .bool _ => k (.d (.bool true))
    | .dict _ => False
    | _ => k (.d (.bool false)))
  | .isBool => (match x with
    | .bool _ => k (.d (.bool true))
    | .dict _ => False
    | _ => k (.d (.bool false)))
  | .isTuple => (match x with
    | .tuple _ => k (.d (.bool true))
    | .dict _ => False
    | _ => k (.d (.bool false)))
  | .isStr => (match x with
    | .str _ => k (.d (.bool true))
    | .dict _ => False
    | _ => k (.d (.bool false)))
def w1 (o : O1) (a : AV) (k : KA) : Prop := ∃ x, a.dat? = some x ∧ b1 o x k
def b3 (o : O3) (i j : Int) : Int :=
  match o with
  | .max => if j > i then j else i
  | .min => if j < i then j else i
  | .gcd => (Nat.gcd i.natAbs j.natAbs : Nat)
def w3 (o : O3) (a b : AV) (k : KA) : Prop := ∃ i j, a = .d (.int i) ∧ b = .d (.int j) ∧ k (.d (.int (b3 o i j)))
def max3W (a b c : AV) (k : KA) : Prop := ∃ i j l, a = .d (.int i) ∧ b = .d (.int j) ∧ c = .d (.int l) ∧ k (.d (.int (b3 .max (b3 .max i j) l)))
def truthW (a : AV) (k : Bool → Prop) : Prop := ∃ x, a.dat? = some x ∧ (match x with
  | .none => k false
  | .bool b => k b
  | .int i => k (i != 0)
  | .str z => z.length ≤ sizeLine ∧ k (z.length != 0)
  | .list xs => k (!xs.isEmpty)
  | .tuple xs => k (!xs.isEmpty)
  | .dict _ => False)
def seqW (a : AV) (k : List PyData → Prop) : Prop := ∃ x, a.emb? = some x ∧ (match x with
  | .list xs => k xs
  | .tuple xs => k xs
  | _ => False)
def seq2W (a b : AV) (k : List PyData → List PyData → Prop) : Prop := ∃ x y, a.emb? = some x ∧ b.emb? = some y ∧ (match x, y with
  | .list xs, .list ys => k xs ys
  | .tuple xs, .tuple ys => k xs ys
  | _, _ => False)
def cut {α : Type} (xs : List α) (lo hi : Option Int) : List α := (xs.drop (HT.sIx xs.length 0 lo)).take (HT.sIx xs.length xs.length hi - HT.sIx xs.length 0 lo)
def slcW (a : AV) (lo hi : Option Int) (k : KA) : Prop := ∃ x, a.dat? = some x ∧ (match x with
  | .list xs => k (.new (cut xs lo hi))
  | .tuple xs => k (.d (.tuple (cut xs lo hi)))
  | _ => False)
def revW (a : AV) (k : KA) : Prop := ∃ x, a.dat? = some x ∧ (match x with
  | .list xs => k (.new xs.reverse)
  | .tuple xs => k (.d (.tuple xs.reverse))
  | _ => False)
/-- the items of a list or a tuple -/
def AV.rows? (a : AV) : Option (List PyData) := match a.dat? with
  | some (.list xs) => some xs
  | some (.tuple xs) => some xs
  | _ => none
def rowsL : List AV → Option (List (List PyData))
  | [] => some []
  | a :: as => match AV.rows? a, rowsL as with
    | some xs, some r => some (xs :: r)
    | _, _ => none
/-- the rows of data -/
def rowD (ds : List (List PyData)) (i : Nat) : List PyData := ds.map fun xs => (xs[i]?).getD .none
def zipD (ds : List (List PyData)) (n : Nat) : List PyData := (List.range n).map fun i => .tuple (rowD ds i)
/-- list(zip(..)) of k0 lists and tuples, the shortest of n items -/
def zlW (k0 : Nat) (as : List AV) (k : KA) : Prop := ∃ dss n, rowsL as = some dss ∧ as.length = k0 ∧ n < sizeLine ∧ (∀ xs ∈ dss, n ≤ xs.length) ∧ (∃ xs ∈ dss, xs.length = n) ∧ k (.new (zipD dss n))
def intW (a : AV) (k : Int → Prop) : Prop := ∃ i, a = .d (.int i) ∧ k i
def RngOk (i : Int) : Prop := -(2 ^ 62) ≤ i ∧ i < 2 ^ 62
/-- lo, lo + c, .. (n of them) -/
def rngL (lo c : Int) (n : Nat) : List PyData := (List.range n).map fun (t : Nat) => .int (lo + (t : Int) * c)
def enuL : Nat → List PyData → List PyData
  | _, [] => []
  | i, x :: xs => .tuple [.int i, x] :: enuL (i + 1) xs
def zipL : List PyData → List PyData → List PyData
  | x :: xs, y :: ys => .tuple [x, y] :: zipL xs ys
  | _, _ => []
/-- some of a list, in another order -/
def permL {α : Type} (l : List α) : List Nat → Option (List α)
  | [] => some []
  | i :: r => match l[i]?, permL l r with
    | some a, some as => some (a :: as)
    | _, _ => none
/-- a def is called; a list that a slot holds may be handed in where what comes back holds no list, and nothing is raised -/
def callW (fe : FE) (x : KX) (f : Nat) (bor : Bool) (args : List SV) (k : KA) : Prop :=
  if bor = true then fe f args (fun r => ∃ y, r = .d y ∧ bare y = true ∧ k r) (fun _ _ => False) else fe f args k x
/-- a slot is set -/
def setW (ρ : List SV) (i : Nat) (a : AV) (k : List SV → Prop) : Prop :=
  match a with
  | .d x => k (ρ.set i (.d x))
  | .new xs => k (ρ.set i (.own xs))
  | .src => k (ρ.set i .src)
  | .bor _ => False
def setD : List Nat → List PyData → List SV → Option (List SV)
  | [], [], ρ => some ρ
  | i :: is, x :: xs, ρ => setD is xs (ρ.set i (.d x))
  | _, _, _ => none
def setA : List Nat → List AV → List SV → (List SV → Prop) → Prop
  | [], [], ρ, k => k ρ
  | i :: is, a :: as, ρ, k => setW ρ i a fun ρ' => setA is as ρ' k
  | _, _, _, _ => False
def tgt : Tg → PyData → List SV → Option (List SV)
  | .nm i, x, ρ => some (ρ.set i (.d x))
  | .tp is, .tuple xs, ρ => setD is xs ρ
  | .tp is, .list xs, ρ => setD is xs ρ
  | _, _, _ => none
def wipeS (ρ : List SV) : List Nat → List SV
  | [] => ρ
  | v :: vs => (wipeS ρ vs).set v .un
def varW (ρ : List SV) (i : Nat) (k : KA) : Prop :=
  match ρ[i]? with
  | some (.d x) => k (.d x)
  | some (.own xs) => k (.bor xs)
  | some .src => k .src
  | _ => False

/-! ### expressions -/
/-- the four readings of a phrase: a value, arguments, a test, what is walked -/
structure D4 where
  v : List SV → KA → Prop
  l : List SV → (List AV → Prop) → Prop
  t : List SV → (Bool → Prop) → Prop
  i : List SV → (List PyData → Prop) → Prop
  o : List SV → (Option Int → Prop) → Prop
def D4.ofV (v : List SV → KA → Prop) : D4 where
  v := v
  l := fun _ _ => False
  t := fun ρ k => v ρ fun a => truthW a k
  i := fun ρ k => v ρ fun a => seqW a k
  o := fun ρ k => v ρ fun a => intW a fun n => k (some n)
def D4.ofI (i : List SV → (List PyData → Prop) → Prop) : D4 where
  v := fun _ _ => False
  l := fun _ _ => False
  t := fun _ _ => False
  i := i
  o := fun _ _ => False
/-- a comprehension's turns: what is gathered -/
def cmpW (tg : Tg) (c : Option (List SV → (Bool → Prop) → Prop)) (e : List SV → KA → Prop) (ρ : List SV) : List PyData → List PyData → (List PyData → Prop) → Prop
  | [], acc, k => k acc
  | x :: xs, acc, k => ∃ ρ1, tgt tg x ρ = some ρ1 ∧
    (match c with
    | none => e ρ1 fun a => ∃ y, a.emb? = some y ∧ acc.length < sizeLine ∧ cmpW tg c e ρ xs (acc ++ [y]) k
    | some t => t ρ1 fun b => if b = true then e ρ1 fun a => ∃ y, a.emb? = some y ∧ acc.length < sizeLine ∧ cmpW tg c e ρ xs (acc ++ [y]) k else cmpW tg c e ρ xs acc k)
def eLen : E → Nat
  | .cons _ r => eLen r + 1
  | _ => 0
def isNo : E → Bool
  | .no => true
  | _ => false
def ev (fe : FE) : KX → E → D4
  | _, .dat d => .ofV fun _ k => k (.d d)
  | _, .scr i => .ofV fun ρ k => ρ[i]? = some .scr ∧ ∀ ns : List Int, ns.length ≤ 63 → k (.new (ns.map PyData.int))
  | _, .var i => .ofV fun ρ k => varW ρ i k
  | x, .bin o a b => .ofV fun ρ k => (ev fe x a).v ρ fun p => (ev fe x b).v ρ fun q => w2 o p q k
  | x, .un o a => .ofV fun ρ k => (ev fe x a).v ρ fun p => w1 o p k
  | x, .fn2 o a b => .ofV fun ρ k => (ev fe x a).v ρ fun p => (ev fe x b).v ρ fun q => w3 o p q k
  | x, .max3 a b c => .ofV fun ρ k => (ev fe x a).v ρ fun p => (ev fe x b).v ρ fun q => (ev fe x c).v ρ fun r => max3W p q r k
  | x, .band a b => { D4.ofV (fun ρ k => (ev fe x a).v ρ fun p => ∃ c, p = .d (.bool c) ∧ if c = true then (ev fe x b).v ρ k else k (.d (.bool false))) with
      t := fun ρ k => (ev fe x a).t ρ fun c => if c = true then (ev fe x b).t ρ k else k false }
  | x, .bor a b => { D4.ofV (fun ρ k => (ev fe x a).v ρ fun p => ∃ c, p = .d (.bool c) ∧ if c = true then k (.d (.bool true)) else (ev fe x b).v ρ k) with
      t := fun ρ k => (ev fe x a).t ρ fun c => if c = true then k true else (ev fe x b).t ρ k }
  | x, .bnot a => { D4.ofV (fun ρ k => (ev fe x a).v ρ fun p => ∃ c, p = .d (.bool c) ∧ k (.d (.bool (!c)))) with
      t := fun ρ k => (ev fe x a).t ρ fun c => k (!c) }
  | x, .ife c a b => .ofV fun ρ k => (ev fe x c).t ρ fun t => if t = true then (ev fe x a).v ρ k else (ev fe x b).v ρ k
  | x, .tup es => .ofV fun ρ k => (ev fe x es).l ρ fun as => ∃ xs, embs? as = some xs ∧ xs.length ≤ sizeLine ∧ k (.d (.tuple xs))
  | x, .lst es => .ofV fun ρ k => (ev fe x es).l ρ fun as => ∃ xs, embs? as = some xs ∧ xs.length ≤ sizeLine ∧ k (.new xs)
  | x, .slc a lo hi => .ofV fun ρ k => (ev fe x a).v ρ fun p => (ev fe x lo).o ρ fun l => (ev fe x hi).o ρ fun h => slcW p l h k
  | x, .zl es => .ofV fun ρ k => (ev fe x es).l ρ fun as => zlW (eLen es) as k
  | x, .rev a => .ofV fun ρ k => (ev fe x a).v ρ fun p => revW p k
  | x, .call f perm es ks => .ofV fun ρ k => (ev fe x es).l ρ fun as => as.length = eLen es ∧ (ev fe x ks).l ρ fun bs => bs.length = eLen ks ∧ ∃ cs, permL ((as ++ bs).map argOf) perm = some cs ∧ callW fe x f ((as ++ bs).any AV.isBor) cs k
  | x, .cmp own elt tg it c => .ofV fun ρ k => (ev fe x it).i ρ fun xs =>
      cmpW tg (if isNo c = true then none else some (ev fe (fun _ _ => False) c).t) (ev fe (fun _ _ => False) elt).v (wipeS ρ own) xs [] fun ys => k (.new ys)
  | x, .rng1 a => .ofI fun ρ k => (ev fe x a).v ρ fun p => intW p fun n => RngOk n ∧ k (rngL 0 1 n.toNat)
  | x, .rng2 a b => .ofI fun ρ k => (ev fe x a).v ρ fun p => (ev fe x b).v ρ fun q => intW p fun m => intW q fun n => (RngOk m ∧ RngOk n) ∧ k (rngL m 1 (n - m).toNat)
  | x, .rng3 a b c => .ofI fun ρ k => (ev fe x a).v ρ fun p => (ev fe x b).v ρ fun q => (ev fe x c).v ρ fun r => intW p fun m => intW q fun n => intW r fun s =>
      ∃ c, L2.RgC m n s c ∧ k (rngL m s c)
  | x, .enu a => .ofI fun ρ k => (ev fe x a).v ρ fun p => seqW p fun xs => k (enuL 0 xs)
  | x, .zip2 a b => .ofI fun ρ k => (ev fe x a).v ρ fun p => (ev fe x b).v ρ fun q => seq2W p q fun xs ys => k (zipL xs ys)
  | x, .rvd a => .ofI fun ρ k => (ev fe x a).v ρ fun p => seqW p fun xs => k xs.reverse
  | _, .no => { D4.ofI (fun _ _ => False) with o := fun _ k => k none }
  | _, .nil => { D4.ofI (fun _ _ => False) with l := fun _ k => k [] }
  | x, .cons a r => { D4.ofI (fun _ _ => False) with l := fun ρ k => (ev fe x a).v ρ fun p => (ev fe x r).l ρ fun ps => k (p :: ps) }

/-! ### statements -/
inductive Fl where
  | nx (ρ : List SV) | rt (a : AV) | bk (ρ : List SV) | ct (ρ : List SV)
abbrev KF := Fl → Prop
def loopW (tg : Tg) (f : List SV → KF → Prop) : List PyData → List SV → KF → Prop
  | [], ρ, k => k (.nx ρ)
  | x :: xs, ρ, k => ∃ ρ1, tgt tg x ρ = some ρ1 ∧ f ρ1 fun fl => match fl with
    | .nx ρ2 => loopW tg f xs ρ2 k
    | .ct ρ2 => loopW tg f xs ρ2 k
    | .bk ρ2 => k (.nx ρ2)
    | .rt a => k (.rt a)
def whlW (c : List SV → (Bool → Prop) → Prop) (f : List SV → KF → Prop) : Nat → List SV → KF → Prop
  | 0, _, _ => False
  | n + 1, ρ, k => c ρ fun t => if t = true then f ρ (fun fl => match fl with
    | .nx ρ2 => whlW c f n ρ2 k
    | .ct ρ2 => whlW c f n ρ2 k
    | .bk ρ2 => k (.nx ρ2)
    | .rt a => k (.rt a)) else k (.nx ρ)
def ex (fe : FE) : KX → Sm → List SV → KF → Prop
  | x, .set i e, ρ, k => (ev fe x e).v ρ fun a => setW ρ i a fun ρ' => k (.nx ρ')
  | x, .unp is e, ρ, k => (ev fe x e).v ρ fun a => ∃ xs, a.items? = some xs ∧ ∃ ρ', setD is xs ρ = some ρ' ∧ k (.nx ρ')
  | x, .par is es, ρ, k => (ev fe x es).l ρ fun as => setA is as ρ fun ρ' => k (.nx ρ')
  | x, .put i j e, ρ, k => (ev fe x e).v ρ fun a => ∃ y, a.emb? = some y ∧ ∃ xs, ρ[i]? = some (.own xs) ∧
      (ev fe x j).v ρ fun p => intW p fun n => ∃ m, ixOf xs.length n = some m ∧ k (.nx (ρ.set i (.own (xs.set m y))))
  | x, .app i e, ρ, k => ∃ xs, ρ[i]? = some (.own xs) ∧ (ev fe x e).v ρ fun a => ∃ y, a.emb? = some y ∧ xs.length < sizeLine ∧ k (.nx (ρ.set i (.own (xs ++ [y]))))
  | x, .ret e, ρ, k => (ev fe x e).v ρ fun a => k (.rt a)
  | _, .retN, _, k => k (.rt (.d .none))
  | x, .drop e, ρ, k => (ev fe x e).v ρ fun _ => k (.nx ρ)
  | x, .ifs c a b, ρ, k => (ev fe x c).t ρ fun t => if t = true then ex fe x a ρ k else ex fe x b ρ k
  | x, .loop tg it b, ρ, k => (ev fe x it).i ρ fun xs => loopW tg (ex fe x b) xs ρ k
  | x, .whl c b, ρ, k => ∃ n, whlW (ev fe x c).t (ex fe x b) n ρ k
  | _, .brk, ρ, k => k (.bk ρ)
  | _, .cnt, ρ, k => k (.ct ρ)
  | _, .pass, ρ, k => k (.nx ρ)
  | _, .frz i, ρ, k => ∃ xs, ρ[i]? = some (.own xs) ∧ k (.nx (ρ.set i (.d (.list xs))))
  | _, .rse, _, _ => False
  | x, .rs c, _, _ => x c []
  | x, .tryx b c _ su, ρ, k => ex fe (fun c' fs => if hitE c' c = true then fs = [] ∧ k (.rt (.new [.str (su.ans c')])) else x c' fs) b ρ k
  | _, .nil, ρ, k => k (.nx ρ)
  | x, .cons s r, ρ, k => ex fe x s ρ fun fl => match fl with
    | .nx ρ' => ex fe x r ρ' k
    | o => k o
def leaveW (a : AV) (k : KA) : Prop :=
  match a with
  | .d y => k (.d y)
  | .new xs => k (.new xs)
  | .bor xs => k (.new xs)
  | .src => False
/-- a def's worth: p parameters, n slots -/
def runF (fe : FE) (p n : Nat) (b : Sm) (args : List SV) (k : KA) (x : KX) : Prop := args.length = p ∧
  ex fe x b (args ++ List.replicate (n - p) .un) fun fl => match fl with
    | .nx _ => k (.d .none)
    | .rt a => leaveW a k
    | _ => False
/-- a number below n is drawn -/
def drawW (args : List SV) (k : KA) (_ : KX) : Prop := ∃ n : Int, args = [.src, .d (.int n)] ∧ 0 < n ∧ n.natAbs.log2 < 9000 ∧ ∀ r, 0 ≤ r → r < n → k (.d (.int r))
abbrev noX : KX := fun _ _ => False
/-- the law's slots behind its first statement -/
def ρLaw (n : Nat) : List SV := .un :: .src :: List.replicate n .un
end Un
end
section
/-! Un: how plain data stands in the abstract heap; what a step may change. -/
namespace Un
open PySem PySem.Spec L2

mutual
inductive Dq (K : PySem.W.Frag) (H : Hp) : V → PyData → Prop
  | non : Dq K H .non .none
  | bl (b : Bool) : Dq K H (.bl b) (.bool b)
  | int (i : Int) : Dq K H (.int i) (.int i)
  | str (x : Str) : Dq K H (.str x) (.str x)
  | lst {a : Addr} {xs : List V} {ds : List PyData} : H a = some (.lst xs) → DqAll K H xs ds → Dq K H (.ref a) (.list ds)
  | tup {a : Addr} {xs : List V} {ds : List PyData} : SqT K H a xs → DqAll K H xs ds → Dq K H (.ref a) (.tuple ds)
inductive DqAll (K : PySem.W.Frag) (H : Hp) : List V → List PyData → Prop
  | nil : DqAll K H [] []
  | cons {v : V} {vs : List V} {d : PyData} {ds : List PyData} : Dq K H v d → DqAll K H vs ds → DqAll K H (v :: vs) (d :: ds)
end
section
variable {K : PySem.W.Frag} {H H' : Hp}
theorem sqT_mono {a : Addr} {xs : List V} (e : Same H H') (h : SqT K H a xs) : SqT K H' a xs := by
  rcases h with (h | ⟨o, h⟩) | h
  · exact .inl (.inl (e _ _ h))
  · exact .inl (.inr ⟨o, e _ _ h⟩)
  · exact .inr h
theorem sqL_mono {a : Addr} {xs : List V} (e : Same H H') (h : SqL K H a xs) : SqL K H' a xs := by
  rcases h with (h | ⟨o, h⟩) | h
  · exact .inl (.inl (e _ _ h))
  · exact .inl (.inr ⟨o, e _ _ h⟩)
  · exact .inr h
mutual
theorem Dq.mono (e : Same H H') : ∀ (d : PyData) (v : V), Dq K H v d → Dq K H' v d
  | .none, _, h => by cases h; exact .non
  | .bool b, _, h => by cases h; exact .bl b
  | .int i, _, h => by cases h; exact .int i
  | .str x, _, h => by cases h; exact .str x
  | .list ds, _, h => by
    cases h with
    | lst h1 h2 => exact .lst (e _ _ h1) (DqAll.mono e ds _ h2)
  | .tuple ds, _, h => by
    cases h with
    | tup h1 h2 => exact .tup (sqT_mono e h1) (DqAll.mono e ds _ h2)
  | .dict _, _, h => by cases h
theorem DqAll.mono (e : Same H H') : ∀ (ds : List PyData) (vs : List V), DqAll K H vs ds → DqAll K H' vs ds
  | [], _, h => by cases h; exact .nil
  | d :: ds, _, h => by
    cases h with
    | cons h1 h2 => exact .cons (Dq.mono e d _ h1) (DqAll.mono e ds _ h2)
end
mutual
theorem Dq.dp : ∀ (d : PyData) (v : V), Dq K H v d → Dp K H v d
  | .none, _, h => by cases h; exact .non
  | .bool b, _, h => by cases h; exact .bl b
  | .int i, _, h => by cases h; exact .int i
  | .str x, _, h => by cases h; exact .str x
  | .list ds, _, h => by
    cases h with
    | lst h1 h2 => exact .lst (SqL.of h1) (DqAll.dp ds _ h2)
  | .tuple ds, _, h => by
    cases h with
    | tup h1 h2 => exact .tup h1 (DqAll.dp ds _ h2)
  | .dict _, _, h => by cases h
theorem DqAll.dp : ∀ (ds : List PyData) (vs : List V), DqAll K H vs ds → DpAll K H vs ds
  | [], _, h => by cases h; exact .nil
  | d :: ds, _, h => by
    cases h with
    | cons h1 h2 => exact .cons (Dq.dp d _ h1) (DqAll.dp ds _ h2)
end
/-- the heap without the list at a -/
def off (H : Hp) (a : Addr) : Hp := fun b => if b = a then none else H b
mutual
/-- a thing without lists within does not lean on a list -/
theorem Dq.off {a : Addr} {ys : List V} (ha : H a = some (.lst ys)) : ∀ (d : PyData) (v : V), bare d = true → Dq K H v d → Dq K (off H a) v d
  | .none, _, _, h => by cases h; exact .non
  | .bool b, _, _, h => by cases h; exact .bl b
  | .int i, _, _, h => by cases h; exact .int i
  | .str x, _, _, h => by cases h; exact .str x
  | .list ds, _, hb, _ => by simp [bare] at hb
  | .tuple ds, _, hb, h => by
    cases h with
    | tup h1 h2 =>
      rename_i b xs
      refine .tup ?_ (DqAll.off ha ds _ (by simpa [bare] using hb) h2)
      rcases h1 with (h1 | ⟨o, h1⟩) | h1
      · refine .inl (.inl ?_)
        have hne : ¬ b = a := by
          rintro rfl
          rw [ha] at h1
          cases h1
        unfold Un.off
        rw [if_neg hne]
        exact h1
      · refine .inl (.inr ⟨o, ?_⟩)
        have hne : ¬ b = a := by
          rintro rfl
          rw [ha] at h1
          cases h1
        unfold Un.off
        rw [if_neg hne]
        exact h1
      · exact .inr h1
  | .dict _, _, _, h => by cases h
theorem DqAll.off {a : Addr} {ys : List V} (ha : H a = some (.lst ys)) : ∀ (ds : List PyData) (vs : List V), bareAll ds = true → DqAll K H vs ds → DqAll K (off H a) vs ds
  | [], _, _, h => by cases h; exact .nil
  | d :: ds, _, hb, h => by
    cases h with
    | cons h1 h2 =>
      have hb' : bare d = true ∧ bareAll ds = true := by simpa [bareAll] using hb
      exact .cons (Dq.off ha d _ hb'.1 h1) (DqAll.off ha ds _ hb'.2 h2)
end
theorem DqAll.len : ∀ {vs : List V} {ds : List PyData}, DqAll K H vs ds → vs.length = ds.length
  | _, _, .nil => rfl
  | _, _, .cons _ t => by rw [List.length_cons, List.length_cons, DqAll.len t]
theorem DqAll.get : ∀ {vs : List V} {ds : List PyData} {i : Nat} {d : PyData}, DqAll K H vs ds → ds[i]? = some d → ∃ v, vs[i]? = some v ∧ Dq K H v d
  | _, _, _, _, .nil, e => by simp at e
  | _, _, 0, _, .cons r _, e => by
    simp at e
    subst e
    exact ⟨_, rfl, r⟩
  | _, _, i + 1, d, .cons _ t, e => by
    obtain ⟨v, h1, h2⟩ := DqAll.get (i := i) (d := d) t (by simpa using e)
    exact ⟨v, by simpa using h1, h2⟩
theorem DqAll.append : ∀ {vs ws : List V} {ds es : List PyData}, DqAll K H vs ds → DqAll K H ws es → DqAll K H (vs ++ ws) (ds ++ es)
  | _, _, _, _, .nil, s => s
  | _, _, _, _, .cons r t, s => .cons r (DqAll.append t s)
theorem DqAll.take : ∀ {vs : List V} {ds : List PyData} (n : Nat), DqAll K H vs ds → DqAll K H (vs.take n) (ds.take n)
  | _, _, 0, _ => .nil
  | _, _, _ + 1, .nil => .nil
  | _, _, n + 1, .cons r t => .cons r (DqAll.take n t)
theorem DqAll.drop : ∀ {vs : List V} {ds : List PyData} (n : Nat), DqAll K H vs ds → DqAll K H (vs.drop n) (ds.drop n)
  | _, _, 0, r => r
  | _, _, _ + 1, .nil => .nil
  | _, _, n + 1, .cons _ t => DqAll.drop n t
theorem DqAll.set {v : V} {d : PyData} (r : Dq K H v d) : ∀ {vs : List V} {ds : List PyData} (i : Nat), DqAll K H vs ds → DqAll K H (vs.set i v) (ds.set i d)
  | _, _, _, .nil => .nil
  | _, _, 0, .cons _ t => .cons r t
  | _, _, i + 1, .cons q t => .cons q (DqAll.set r i t)
theorem DqAll.snoc {v : V} {d : PyData} {vs : List V} {ds : List PyData} (h : DqAll K H vs ds) (r : Dq K H v d) : DqAll K H (vs ++ [v]) (ds ++ [d]) := h.append (.cons r .nil)
theorem DqAll.reverse : ∀ {vs : List V} {ds : List PyData}, DqAll K H vs ds → DqAll K H vs.reverse ds.reverse
  | _, _, .nil => .nil
  | _, _, .cons r t => by
    rw [List.reverse_cons, List.reverse_cons]
    exact (DqAll.reverse t).snoc r
theorem DqAll.rep {vs : List V} {ds : List PyData} (h : DqAll K H vs ds) : ∀ n : Nat, DqAll K H (List.replicate n vs).flatten (List.replicate n ds).flatten
  | 0 => .nil
  | n + 1 => by
    rw [List.replicate_succ, List.replicate_succ, List.flatten_cons, List.flatten_cons]
    exact h.append (DqAll.rep h n)
theorem DqAll.cut {vs : List V} {ds : List PyData} (h : DqAll K H vs ds) (lo hi : Option Int) : DqAll K H (cutV vs lo hi) (cut ds lo hi) := by
  unfold cutV Un.cut
  rw [h.len]
  exact (h.drop _).take _
theorem DqAll.at_ {vs : List V} {ds : List PyData} {i : Int} {d : PyData} (h : DqAll K H vs ds) (e : atIx ds i = some d) : ∃ v, atI vs i = some v ∧ Dq K H v d := by
  unfold atIx at e
  unfold L2.atI at e ⊢
  rw [h.len]
  cases q : ixN ds.length i with
  | none =>
    rw [q] at e
    cases e
  | some j =>
    rw [q] at e
    exact h.get e
end

/-! ### the source of numbers: a thing of the heap that its own defs change -/
structure Loc where
  p : Addr
  foot : Addr → Prop
  ok : Hp → Prop
  mono : ∀ H H', ok H → (∀ a, foot a → H' a = H a) → ok H'
  dom : ∀ H a, ok H → foot a → H a ≠ none
/-- a step: what is tracked stays but for the source; what is fixed grows by new things alone -/
structure Grow (L : Loc) (Hi H Hi' H' : Hp) : Prop where
  keep : ∀ a o, H a = some o → ¬ L.foot a → H' a = some o
  dom : ∀ a, H' a = none → H a = none
  mono : Same Hi Hi'
  sub : Same Hi' H'
  fr : ∀ a, Hi' a ≠ none → Hi a = none → H a = none
theorem Grow.refl {L : Loc} {Hi H : Hp} (s : Same Hi H) : Grow L Hi H Hi H := ⟨fun _ _ h _ => h, fun _ h => h, Same.refl _, s, fun _ h1 h2 => absurd h2 h1⟩
theorem Grow.trans {L : Loc} {Hi H Hi1 H1 Hi2 H2 : Hp} (a : Grow L Hi H Hi1 H1) (b : Grow L Hi1 H1 Hi2 H2) : Grow L Hi H Hi2 H2 where
  keep := fun x o h n => b.keep x o (a.keep x o h n) n
  dom := fun x h => a.dom x (b.dom x h)
  mono := a.mono.trans b.mono
  sub := b.sub
  fr := fun x h1 h2 => by
    cases q : Hi1 x with
    | none => exact a.dom x (b.fr x h1 q)
    | some o => exact a.fr x (by rw [q]; simp) h2
/-- a new thing is laid, fixed at once -/
theorem Grow.laid {L : Loc} {Hi H : Hp} {p : Addr} {o : HO} (s : Same Hi H) (hp : H p = none) : Grow L Hi H (upd Hi p o) (upd H p o) where
  keep := fun x u h _ => by rw [upd_ne (ne_of_none h hp)]; exact h
  dom := fun x h => by
    by_cases e : x = p
    · rw [e]; exact hp
    · rw [upd_ne e] at h; exact h
  mono := fun x u h => by rw [upd_ne (ne_of_none (s x u h) hp)]; exact h
  sub := fun x u h => by
    by_cases e : x = p
    · rw [e] at h ⊢
      rw [upd_same] at h ⊢
      exact h
    · rw [upd_ne e] at h ⊢
      exact s x u h
  fr := fun x h1 h2 => by
    by_cases e : x = p
    · rw [e]; exact hp
    · rw [upd_ne e] at h1
      exact absurd h2 h1
/-- a new thing is laid, not fixed -/
theorem Grow.laid' {L : Loc} {Hi H : Hp} {p : Addr} {o : HO} (s : Same Hi H) (hp : H p = none) : Grow L Hi H Hi (upd H p o) where
  keep := fun x u h _ => by rw [upd_ne (ne_of_none h hp)]; exact h
  dom := fun x h => by
    by_cases e : x = p
    · rw [e]; exact hp
    · rw [upd_ne e] at h; exact h
  mono := Same.refl _
  sub := fun x u h => by rw [upd_ne (ne_of_none (s x u h) hp)]; exact s x u h
  fr := fun x h1 h2 => absurd h2 h1
/-- a thing that stands is fixed from now on -/
theorem Grow.fixed {L : Loc} {Hi0 B Hi H : Hp} {p : Addr} {o : HO} (g : Grow L Hi0 B Hi H) (hp : H p = some o) (hb : B p = none) (hn : Hi p = none) : Grow L Hi0 B (upd Hi p o) H where
  keep := g.keep
  dom := g.dom
  mono := fun x u h => by
    have q := g.mono x u h
    rw [upd_ne (ne_of_none q hn)]
    exact q
  sub := fun x u h => by
    by_cases e : x = p
    · rw [e] at h ⊢
      rw [upd_same] at h
      rw [hp]
      exact h
    · rw [upd_ne e] at h
      exact g.sub x u h
  fr := fun x h1 h2 => by
    by_cases e : x = p
    · rw [e]; exact hb
    · rw [upd_ne e] at h1
      exact g.fr x h1 h2
/-- a thing of one's own is changed -/
theorem Grow.wrote {L : Loc} {Hi0 B Hi H : Hp} {p : Addr} {o : HO} (g : Grow L Hi0 B Hi H) (hb : B p = none) (hn : Hi p = none) : Grow L Hi0 B Hi (upd H p o) where
  keep := fun x u h n => by rw [upd_ne (ne_of_none h hb)]; exact g.keep x u h n
  dom := fun x h => by
    by_cases e : x = p
    · rw [e, upd_same] at h
      cases h
    · rw [upd_ne e] at h
      exact g.dom x h
  mono := g.mono
  sub := fun x u h => by rw [upd_ne (ne_of_none h hn)]; exact g.sub x u h
  fr := g.fr
theorem Grow.same {L : Loc} {Hi0 B Hi H H' : Hp} (g : Grow L Hi0 B Hi H) (s : Same H H') : Grow L Hi0 B Hi H' where
  keep := fun x o h n => s x o (g.keep x o h n)
  dom := fun x h => g.dom x (s.free h)
  mono := g.mono
  sub := g.sub.trans s
  fr := g.fr

/-- where an expression's worth stands. B: the heap at the def's entry; Hs: at the expression's start -/
def AvOk (K : PySem.W.Frag) (L : Loc) (B Hs Hi H : Hp) (v : V) : AV → Prop
  | .d x => Dq K Hi v x
  | .new xs => ∃ a vs, v = .ref a ∧ Hs a = none ∧ Hi a = none ∧ H a = some (.lst vs) ∧ DqAll K Hi vs xs
  | .bor xs => ∃ a vs, v = .ref a ∧ B a = none ∧ Hi a = none ∧ H a = some (.lst vs) ∧ DqAll K Hi vs xs
  | .src => v = .ref L.p
/-- where a slot's worth stands -/
def SvOk (K : PySem.W.Frag) (L : Loc) (B Hi H : Hp) (v : Option V) : SV → Prop
  | .un => True
  | .d x => ∃ u, v = some u ∧ Dq K Hi u x
  | .own xs => ∃ a vs, v = some (.ref a) ∧ B a = none ∧ Hi a = none ∧ H a = some (.lst vs) ∧ DqAll K Hi vs xs
  | .src => v = some (.ref L.p)
  | .scr => ∃ (a : Addr) (ns : List Int), v = some (.ref a) ∧ SqL K Hi a (ns.map V.int)
def isOwn : SV → Bool
  | .own _ => true
  | _ => false
/-- the state of a def: its entry (Hi0, B), now (Hi, H), the slots -/
structure Rel (K : PySem.W.Frag) (L : Loc) (Hi0 B Hi : Hp) (σ : L2.St) (H : Hp) (ρ : List SV) : Prop where
  g : Grow L Hi0 B Hi H
  src : L.ok H
  srcB : L.ok B
  av0 : ∀ a, L.foot a → Hi0 a = none
  len : ρ.length = σ.length
  slot : ∀ (i : Nat) r, ρ[i]? = some r → ∃ v, σ[i]? = some v ∧ SvOk K L B Hi H v r
  apart : ∀ (i j : Nat) (r q : SV) (a : Addr), i ≠ j → ρ[i]? = some r → ρ[j]? = some q → isOwn r = true → isOwn q = true → σ[i]? = some (some (V.ref a)) → σ[j]? = some (some (V.ref a)) → False
section
variable {K : PySem.W.Frag} {L : Loc} {Hi0 B Hi H Hi' H' Hs His : Hp} {σ : L2.St} {ρ : List SV}
theorem Loc.nofoot (h : L.ok B) : ∀ p, B p = none → ¬ L.foot p := fun p hp f => L.dom B p h f hp
theorem Grow.avoid (g : Grow L Hi0 B Hi H) (h0 : ∀ a, L.foot a → Hi0 a = none) (hb : ∀ a, L.foot a → B a ≠ none) : ∀ a, L.foot a → Hi a = none := fun a ha => by
  cases q : Hi a with
  | none => rfl
  | some o => exact absurd (g.fr a (by rw [q]; simp) (h0 a ha)) (hb a ha)
theorem AvOk.mono {v : V} {a : AV} (h : AvOk K L B Hs Hi H v a) (g : Grow L Hi H Hi' H') (hn : ∀ p, Hs p = none → ¬ L.foot p) (hbn : ∀ p, B p = none → ¬ L.foot p) : AvOk K L B Hs Hi' H' v a := by
  have new : ∀ p vs, Hi p = none → H p = some (.lst vs) → Hi' p = none := fun p vs h1 h2 => by
    cases q : Hi' p with
    | none => rfl
    | some o =>
      have := g.fr p (by rw [q]; simp) h1
      rw [h2] at this
      cases this
  cases a with
  | d x => exact Dq.mono g.mono _ _ h
  | new xs =>
    obtain ⟨p, vs, e, h1, h2, h3, h4⟩ := h
    exact ⟨p, vs, e, h1, new p vs h2 h3, g.keep p _ h3 (hn p h1), DqAll.mono g.mono _ _ h4⟩
  | bor xs =>
    obtain ⟨p, vs, e, h1, h2, h3, h4⟩ := h
    exact ⟨p, vs, e, h1, new p vs h2 h3, g.keep p _ h3 (hbn p h1), DqAll.mono g.mono _ _ h4⟩
  | src => exact h
theorem SvOk.mono {v : Option V} {r : SV} (h : SvOk K L B Hi H v r) (g : Grow L Hi H Hi' H') (hbn : ∀ p, B p = none → ¬ L.foot p) : SvOk K L B Hi' H' v r := by
  have new : ∀ p vs, Hi p = none → H p = some (.lst vs) → Hi' p = none := fun p vs h1 h2 => by
    cases q : Hi' p with
    | none => rfl
    | some o =>
      have := g.fr p (by rw [q]; simp) h1
      rw [h2] at this
      cases this
  cases r with
  | un => trivial
  | d x =>
    obtain ⟨u, e, h⟩ := h
    exact ⟨u, e, Dq.mono g.mono _ _ h⟩
  | own xs =>
    obtain ⟨p, vs, e, h1, h2, h3, h4⟩ := h
    exact ⟨p, vs, e, h1, new p vs h2 h3, g.keep p _ h3 (hbn p h1), DqAll.mono g.mono _ _ h4⟩
  | src => exact h
  | scr =>
    obtain ⟨a, ns, e, h1⟩ := h
    exact ⟨a, ns, e, sqL_mono g.mono h1⟩
/-- behind a step -/
theorem Rel.step (r : Rel K L Hi0 B Hi σ H ρ) (g : Grow L Hi H Hi' H') (hs : L.ok H') : Rel K L Hi0 B Hi' σ H' ρ where
  g := r.g.trans g
  src := hs
  srcB := r.srcB
  av0 := r.av0
  len := r.len
  slot := fun i q e => by
    obtain ⟨v, e1, h⟩ := r.slot i q e
    exact ⟨v, e1, h.mono g (Loc.nofoot r.srcB)⟩
  apart := r.apart
/-- a worth, read where it stands -/
theorem AvOk.dq {v : V} {a : AV} {x : PyData} (h : AvOk K L B Hs Hi H v a) (s : Same Hi H) (e : a.dat? = some x) : Dq K H v x := by
  cases a with
  | d y => cases e; exact Dq.mono s _ _ h
  | new xs =>
    cases e
    obtain ⟨p, vs, rfl, h1, h2, h3, h4⟩ := h
    exact .lst h3 (DqAll.mono s _ _ h4)
  | bor xs =>
    cases e
    obtain ⟨p, vs, rfl, h1, h2, h3, h4⟩ := h
    exact .lst h3 (DqAll.mono s _ _ h4)
  | src => cases e
/-- a sequence, its items fixed -/
theorem AvOk.list {v : V} {a : AV} {xs : List PyData} (h : AvOk K L B Hs Hi H v a) (s : Same Hi H) (e : a.dat? = some (.list xs)) : ∃ p vs, v = .ref p ∧ H p = some (.lst vs) ∧ DqAll K Hi vs xs := by
  cases a with
  | d y =>
    cases e
    have h : Dq K Hi v (.list xs) := h
    cases h with
    | lst h1 h2 => exact ⟨_, _, rfl, s _ _ h1, h2⟩
  | new xs =>
    cases e
    obtain ⟨p, vs, rfl, h1, h2, h3, h4⟩ := h
    exact ⟨p, vs, rfl, h3, h4⟩
  | bor xs =>
    cases e
    obtain ⟨p, vs, rfl, h1, h2, h3, h4⟩ := h
    exact ⟨p, vs, rfl, h3, h4⟩
  | src => cases e
theorem AvOk.tuple {v : V} {a : AV} {xs : List PyData} (h : AvOk K L B Hs Hi H v a) (s : Same Hi H) (e : a.dat? = some (.tuple xs)) : ∃ p vs, v = .ref p ∧ SqT K Hi p vs ∧ SqT K H p vs ∧ DqAll K Hi vs xs := by
  cases a with
  | d y =>
    cases e
    have h : Dq K Hi v (.tuple xs) := h
    cases h with
    | tup h1 h2 => exact ⟨_, _, rfl, h1, sqT_mono s h1, h2⟩
  | new xs => cases e
  | bor xs => cases e
  | src => cases e
theorem AvOk.flat {v : V} {a : AV} {x : PyData} (h : AvOk K L B Hs Hi H v a) (e : a.dat? = some x) (hl : ∀ xs, x ≠ .list xs) : a = .d x ∧ Dq K Hi v x := by
  cases a with
  | d y => cases e; exact ⟨rfl, h⟩
  | new xs => cases e; exact absurd rfl (hl _)
  | bor xs => cases e; exact absurd rfl (hl _)
  | src => cases e
/-- a thing of a new address is fixed: what else stands, stands as before -/
theorem Dq.upd {v : V} {x : PyData} {p : Addr} {o : HO} (hp : Hi p = none) (h : Dq K Hi v x) : Dq K (upd Hi p o) v x := Dq.mono (fun b u e => by rw [upd_ne (ne_of_none e hp)]; exact e) _ _ h
theorem DqAll.upd {vs : List V} {xs : List PyData} {p : Addr} {o : HO} (hp : Hi p = none) (h : DqAll K Hi vs xs) : DqAll K (upd Hi p o) vs xs := DqAll.mono (fun b u e => by rw [upd_ne (ne_of_none e hp)]; exact e) _ _ h
def isNew : AV → Bool
  | .new _ => true
  | _ => false
/-- a worth is fixed, to be laid into another thing -/
theorem AvOk.fix {v : V} {a : AV} {x : PyData} (h : AvOk K L B Hs Hi H v a) (g : Grow L His Hs Hi H) (e : a.emb? = some x) : ∃ Hi2, Grow L His Hs Hi2 H ∧ Same Hi Hi2 ∧ Dq K Hi2 v x ∧
    ∀ q, Hi q = none → (isNew a = true → v ≠ .ref q) → Hi2 q = none := by
  cases a with
  | d y =>
    cases e
    exact ⟨Hi, g, Same.refl _, h, fun _ q _ => q⟩
  | new xs =>
    cases e
    obtain ⟨p, vs, rfl, h1, h2, h3, h4⟩ := h
    exact ⟨L2.upd Hi p (.lst vs), g.fixed h3 h1 h2, fun b u e => by rw [upd_ne (ne_of_none e h2)]; exact e, .lst upd_same (DqAll.upd h2 h4), fun q hq hv => by
      rw [upd_ne (fun z => hv rfl (by rw [z]))]
      exact hq⟩
  | bor xs => cases e
  | src => cases e
/-- several worths, the new lists among them apart -/
inductive LsOk (K : PySem.W.Frag) (L : Loc) (B Hs Hi H : Hp) : List V → List AV → Prop
  | nil : LsOk K L B Hs Hi H [] []
  | cons {v : V} {a : AV} {vs : List V} {as : List AV} (h : AvOk K L B Hs Hi H v a) (hn : isNew a = true → ∀ (i : Nat) b, as[i]? = some b → isNew b = true → vs[i]? ≠ some v) (t : LsOk K L B Hs Hi H vs as) : LsOk K L B Hs Hi H (v :: vs) (a :: as)
theorem LsOk.len : ∀ {vs : List V} {as : List AV}, LsOk K L B Hs Hi H vs as → vs.length = as.length
  | _, _, .nil => rfl
  | _, _, .cons _ _ t => by rw [List.length_cons, List.length_cons, LsOk.len t]
theorem LsOk.get : ∀ {vs : List V} {as : List AV} {i : Nat} {v : V} {a : AV}, LsOk K L B Hs Hi H vs as → vs[i]? = some v → as[i]? = some a → AvOk K L B Hs Hi H v a
  | _, _, 0, _, _, .cons h _ _, e1, e2 => by
    simp at e1 e2
    subst e1 e2
    exact h
  | _, _, i + 1, v, a, .cons _ _ t, e1, e2 => LsOk.get (i := i) t (by simpa using e1) (by simpa using e2)
/-- where things were fixed elsewhere -/
theorem AvOk.fixed {v : V} {a : AV} {Hi2 : Hp} (h : AvOk K L B Hs Hi H v a) (s : Same Hi Hi2) (hn : ∀ xs q, a = .new xs → v = .ref q → Hi2 q = none) (hb : ∀ xs q, a = .bor xs → v = .ref q → Hi2 q = none) : AvOk K L B Hs Hi2 H v a := by
  cases a with
  | d x => exact Dq.mono s _ _ h
  | new xs =>
    obtain ⟨p, vs, rfl, h1, h2, h3, h4⟩ := h
    exact ⟨p, vs, rfl, h1, hn xs p rfl rfl, h3, DqAll.mono s _ _ h4⟩
  | bor xs =>
    obtain ⟨p, vs, rfl, h1, h2, h3, h4⟩ := h
    exact ⟨p, vs, rfl, h1, hb xs p rfl rfl, h3, DqAll.mono s _ _ h4⟩
  | src => exact h
theorem AvOk.addr {v : V} {a : AV} {q : Addr} (h : AvOk K L B Hs Hi H v a) (hn : isNew a = true) (e : v = .ref q) : Hi q = none := by
  cases a with
  | new xs =>
    obtain ⟨p, vs, rfl, h1, h2, h3, h4⟩ := h
    cases e
    exact h2
  | d x => cases hn
  | bor xs => cases hn
  | src => cases hn
/-- all are fixed -/
theorem LsOk.fix : ∀ {vs : List V} {as : List AV} {xs : List PyData} {Hi : Hp}, LsOk K L B Hs Hi H vs as → Grow L His Hs Hi H → embs? as = some xs → ∃ Hi2, Grow L His Hs Hi2 H ∧ Same Hi Hi2 ∧ DqAll K Hi2 vs xs ∧
    ∀ q, Hi q = none → (∀ (i : Nat) b, as[i]? = some b → isNew b = true → vs[i]? ≠ some (V.ref q)) → Hi2 q = none
  | _, _, _, Hi, .nil, g, e => by
    cases e
    exact ⟨Hi, g, Same.refl _, .nil, fun _ h _ => h⟩
  | _, _, _, Hi, .cons (v := v) (a := a) (vs := vs) (as := as) h hn t, g, e => by
    have e' : (match a.emb?, embs? as with
      | some x, some xs => some (x :: xs)
      | _, _ => none) = some _ := e
    split at e'
    · rename_i x xs hx hxs
      cases e'
      obtain ⟨Hi2, g2, s2, d2, k2⟩ := LsOk.fix t g hxs
      have h' : AvOk K L B Hs Hi2 H v a := h.fixed s2 (fun ys q ea ev => by
        subst ea ev
        exact k2 q (h.addr rfl rfl) (hn rfl)) (fun ys q ea ev => by
        subst ea
        cases hx)
      obtain ⟨Hi3, g3, s3, d3, k3⟩ := h'.fix g2 hx
      refine ⟨Hi3, g3, s2.trans s3, .cons d3 (DqAll.mono s3 _ _ d2), fun q hq hq2 => ?_⟩
      have hr : ∀ (i : Nat) b, as[i]? = some b → isNew b = true → vs[i]? ≠ some (V.ref q) := fun i b h1 h2 => by
        have := hq2 (i + 1) b (by simpa using h1) h2
        simpa using this
      have hq3 := k2 q hq hr
      exact k3 q hq3 fun hna z => hq2 0 a (by simp) hna (by simp [z])
    · cases e'
end
end Un
end
section
/-! Un: a tuple times any int. -/
open PySem PySem.Spec PyProof.Rows L2
namespace Un
theorem tmul_self (l : Addr) (items : Array Value) (n : Nat) (dd : Option Addr) (sl : Array (Option Value)) (x : Int) (u : Tok) (c0 : (decide (x < -(2 ^ 63)) || decide (x ≥ 2 ^ 63)) = false) (c1 : (items.isEmpty || x == 1) = true) :
    Meets (Builtin.«tuple.__mul__» ⟨[.ref l, .int x u], []⟩) (fun _ R s => s.heap.get? l = some { cls := .type "tuple", dict := dd, data := .seq items n, slots := sl } ∧ R (.ok (.ret (Value.ref l))) s) :=
  .of_wp fun prog w A R s h => by
    obtain ⟨hp, g, d, tk, os⟩ := s
    obtain ⟨hl, h⟩ := h
    have f1 := AutoSeq1.idx_int
    wp_walk using wpAny_loadPart' hl
    repeat (first
      | (refine wpAny_ite_false (decide_eq_false (by rw [c0]; exact Bool.false_ne_true)) ?_; wp_walk using wpAny_loadPart' hl)
      | (refine wpAny_ite_true (decide_eq_true c1) ?_; wp_walk using wpAny_loadPart' hl))
    exact ⟨_, rfl, h⟩
theorem tmul_none (l : Addr) (items : Array Value) (n : Nat) (dd : Option Addr) (sl : Array (Option Value)) (x : Int) (u : Tok) (c0 : (decide (x < -(2 ^ 63)) || decide (x ≥ 2 ^ 63)) = false) (c1 : (items.isEmpty || x == 1) = false) (c2 : (decide (x ≤ 0) || items.isEmpty) = true) :
    Meets (Builtin.«tuple.__mul__» ⟨[.ref l, .int x u], []⟩) (fun _ R s => s.heap.get? l = some { cls := .type "tuple", dict := dd, data := .seq items n, slots := sl } ∧
      R (.ok (.ret (Value.ref s.heap.objs.size))) { s with heap := s.heap.push { cls := Value.type "tuple", data := Data.seq #[] }, toks := s.toks }) :=
  .of_wp fun prog w A R s h => by
    obtain ⟨hp, g, d, tk, os⟩ := s
    obtain ⟨hl, h⟩ := h
    have f1 := AutoSeq1.idx_int
    wp_walk using wpAny_loadPart' hl
    repeat (first
      | (refine wpAny_ite_false (decide_eq_false (by rw [c0]; exact Bool.false_ne_true)) ?_; wp_walk using wpAny_loadPart' hl)
      | (refine wpAny_ite_false (decide_eq_false (by rw [c1]; exact Bool.false_ne_true)) ?_; wp_walk using wpAny_loadPart' hl)
      | (refine wpAny_ite_true (decide_eq_true c2) ?_; wp_walk using wpAny_loadPart' hl))
    exact ⟨_, rfl, h⟩
/-- a tuple times an int: itself, or a new one -/
def rRepA (K : PySem.W.Frag) : R2 := fun x y H Q => ∃ l k xs, x = .ref l ∧ y = .int k ∧ SqT K H l xs ∧ (-(2 ^ 63) ≤ k ∧ k < 2 ^ 63 ∧ xs.length * k.toNat ≤ sizeLine) ∧
  (xs = [] ∨ k = 1 → Q (.ref l) H) ∧ (¬ (xs = [] ∨ k = 1) → ∀ p, H p = none → Q (.ref p) (upd H p (.tup (List.replicate k.toNat xs).flatten)))
theorem op_repA {X : Cx} : OpR X (binaryOp .Mult) (rRepA X.K) := by
  intro pins s σ H x y v u Q I rx ry h
  obtain ⟨l, k, xs, rfl, rfl, hT, ⟨h1, h2, hz⟩, q0, q1⟩ := h
  cases rx
  obtain ⟨t, rfl⟩ := ry
  obtain ⟨its, r, ⟨⟨cls, dd, data, sl⟩, ho, hc, n, hd⟩, hs⟩ := I.tuple hT
  simp only at hc hd
  subst hc hd
  have hle : its.length = xs.length := r.length.symm
  have c0 : (decide (k < -(2 ^ 63)) || decide (k ≥ 2 ^ 63)) = false := by
    rw [decide_eq_false (by omega), decide_eq_false (by omega)] <;> rfl
  have road : ∀ {Q' : Value → Shared → Prop}, wpAny (model X.prog X.w) X.A (call (.builtin "tuple.__mul__") [.ref l, .int k t]) Q' X.xe s → wpAny (model X.prog X.w) X.A (binaryOp .Mult (.ref l) (.int k t)) Q' X.xe s := fun {Q'} hq =>
    wpAny_binaryOp_repeat_ref (T := "tuple") (U := "int") (by decide) ⟨_, ho, rfl⟩ (fun s' => typeIs_int s' k t) noFill_tuple_mul F.fills_int_mul F.slot_int_rmul repeat_tuple F.slot_int_index.lookup
      (call_meets F.slot_int_rmul (typeIs_int s k t) F.entry_int_rmul (F.args_int_rmul_2 _ _) (int_rmul_tuple k t l its.toArray n dd sl) ⟨ho, rfl, ⟨_, ho, rfl⟩, hq⟩)
  have hemp : its.toArray.isEmpty = decide (xs = []) := by
    cases its with
    | nil =>
      have : xs = [] := List.eq_nil_of_length_eq_zero (by simpa using hle.symm)
      simp [this]
    | cons a b =>
      have : xs ≠ [] := fun e => by
        rw [e] at hle
        cases hle
      simp [this]
  by_cases hw : xs = [] ∨ k = 1
  · have c1 : (its.toArray.isEmpty || k == 1) = true := by
      rw [hemp]
      rcases hw with hw | hw
      · simp [hw]
      · simp [hw]
    exact road (call_meets F.slot_tuple_mul ⟨_, ho, rfl⟩ F.entry_tuple_mul (F.args_tuple_mul_2 _ _) (tmul_self l its.toArray n dd sl k t c0 c1) ⟨ho, ⟨.ref l, H, I, rfl, q0 hw⟩⟩)
  · have hn : xs ≠ [] := fun e => hw (.inl e)
    have hk1 : k ≠ 1 := fun e => hw (.inr e)
    have c1 : (its.toArray.isEmpty || k == 1) = false := by
      rw [hemp]
      simp [hn, hk1]
    have fin : ∀ (hp : Heap) (vs : Array Value), vs = (List.replicate k.toNat its).flatten.toArray → hp = s.heap.push { cls := Value.type "tuple", data := Data.seq vs } → EP X pins σ Q (Value.ref s.heap.objs.size) { s with heap := hp, toks := s.toks } := by
      rintro hp vs rfl rfl
      refine ⟨.ref s.heap.objs.size, _, I.laid (t' := s.toks) (o := .tup (List.replicate k.toNat xs).flatten) (fun b ob q => Heap.get?_push_of_some _ q) (Nat.le_refl _) ?_, rfl, q1 hw _ (I.hok.fresh (Nat.le_refl _))⟩
      refine ⟨?_, _, r.rep k.toNat, IsTup.new _ _⟩
      rw [PyProof.Rows.lm_len_rep_flat, Nat.mul_comm]
      exact hz
    by_cases hk0 : k ≤ 0
    · have c2 : (decide (k ≤ 0) || its.toArray.isEmpty) = true := by simp [hk0]
      refine road (call_meets F.slot_tuple_mul ⟨_, ho, rfl⟩ F.entry_tuple_mul (F.args_tuple_mul_2 _ _) (tmul_none l its.toArray n dd sl k t c0 c1 c2) ⟨ho, fin _ #[] ?_ rfl⟩)
      have : k.toNat = 0 := by omega
      rw [this]
      rfl
    · have c2 : (decide (k ≤ 0) || its.toArray.isEmpty) = false := by
        rw [hemp]
        simp [hn, hk0]
      have hsz0 : its.toArray.size = xs.length := by rw [List.size_toArray, hle]
      have hm : ((its.toArray.size : Nat) : Int) * k ≤ 16777216 := by
        rw [hsz0]
        have e1 : k = (k.toNat : Int) := by omega
        rw [e1, ← Int.natCast_mul]
        have hz' := hz
        rw [sizeLine_eq] at hz'
        omega
      have c4 : Builtin.Tuple.tupleTooMany (((its.toArray.size : Nat) : Int) * k) = false := by
        unfold Builtin.Tuple.tupleTooMany
        rw [sizeLine_eq]
        exact decide_eq_false (by omega)
      refine road (call_meets F.slot_tuple_mul ⟨_, ho, rfl⟩ F.entry_tuple_mul (F.args_tuple_mul_2 _ _) (tuple_mulW l its.toArray n dd sl k t c0 c1 c2 (by omega) c4 (by
        rw [size_rep, List.size_toArray, PyProof.Rows.lm_len_rep_flat, Nat.mul_comm, hle]
        exact hz)) ⟨ho, fin _ _ (size_rep its k.toNat) rfl⟩)
end Un
end
section
/-! Un: the operators by plain data. -/
namespace Un
open PySem PySem.Spec L2

/-- what is wanted behind: the wish k of the worth, Q of the value and the heap -/
def After (K : PySem.W.Frag) (L : Loc) (B Hs Hi H : Hp) (k : KA) (Q : VK) : Prop :=
  ∀ av, k av → ∀ v Hi' H', Grow L Hi H Hi' H' → L.ok H' → AvOk K L B Hs Hi' H' v av → Q v H'
section
variable {K : PySem.W.Frag} {L : Loc} {B Hs Hi H Hi' H' : Hp} {k : KA} {Q : VK}
theorem Loc.okUpd {p : Addr} {o : HO} (h : L.ok H) (hp : ¬ L.foot p) : L.ok (upd H p o) := L.mono H _ h fun a ha => upd_ne fun e => hp (e ▸ ha)
theorem Loc.okNew {p : Addr} {o : HO} (h : L.ok H) (hp : H p = none) : L.ok (upd H p o) := L.okUpd h (Loc.nofoot h p hp)
theorem Loc.okSame (h : L.ok H) (s : Same H H') : L.ok H' := L.mono H _ h fun a ha => by
  cases q : H a with
  | none => exact absurd q (L.dom H a h ha)
  | some o => exact s a o q
theorem After.flat {x : PyData} {v : V} (h : After K L B Hs Hi H k Q) (hk : k (.d x)) (s : Same Hi H) (ok : L.ok H) (d : Dq K Hi v x) : Q v H := h _ hk v Hi H (Grow.refl s) ok d
theorem After.newL {xs : List PyData} {vs : List V} (h : After K L B Hs Hi H k Q) (hk : k (.new xs)) (s : Same Hi H) (ok : L.ok H) (hs : ∀ a, H a = none → Hs a = none) (d : DqAll K Hi vs xs) : ∀ p, H p = none → Q (.ref p) (upd H p (.lst vs)) := fun p hp =>
  h _ hk _ Hi _ (Grow.laid' s hp) (L.okNew ok hp) ⟨p, vs, rfl, hs p hp, s.free hp, upd_same, d⟩
theorem After.newT {xs : List PyData} {vs : List V} (h : After K L B Hs Hi H k Q) (hk : k (.d (.tuple xs))) (s : Same Hi H) (ok : L.ok H) (d : DqAll K Hi vs xs) : ∀ p, H p = none → Q (.ref p) (upd H p (.tup vs)) := fun p hp =>
  h _ hk _ (upd Hi p (.tup vs)) _ (Grow.laid s hp) (L.okNew ok hp) (.tup (SqT.of upd_same) (DqAll.upd (s.free hp) d))
/-- a later start -/
theorem AvOk.early {v : V} {a : AV} {H0 : Hp} (h : AvOk K L B H0 Hi H v a) (e : ∀ p, H0 p = none → Hs p = none) : AvOk K L B Hs Hi H v a := by
  cases a with
  | d x => exact h
  | new xs =>
    obtain ⟨p, vs, rfl, h1, h2, h3, h4⟩ := h
    exact ⟨p, vs, rfl, e p h1, h2, h3, h4⟩
  | bor xs => exact h
  | src => exact h
theorem AvOk.int {v : V} {a : AV} {i : Int} (h : AvOk K L B Hs Hi H v a) (e : a.dat? = some (.int i)) : v = .int i := by
  obtain ⟨rfl, d⟩ := h.flat e (fun _ z => nomatch z)
  cases d
  rfl
theorem AvOk.bool {v : V} {a : AV} {b : Bool} (h : AvOk K L B Hs Hi H v a) (e : a.dat? = some (.bool b)) : v = .bl b := by
  obtain ⟨rfl, d⟩ := h.flat e (fun _ z => nomatch z)
  cases d
  rfl
theorem AvOk.str {v : V} {a : AV} {z : Str} (h : AvOk K L B Hs Hi H v a) (e : a.dat? = some (.str z)) : v = .str z := by
  obtain ⟨rfl, d⟩ := h.flat e (fun _ z => nomatch z)
  cases d
  rfl
end

/-- two worths and an operator's word -/
def rW (K : PySem.W.Frag) (o : O2) : R2 := fun x y H Q => ∃ L B Hs Hi p q k, Same Hi H ∧ L.ok H ∧ (∀ a, H a = none → Hs a = none) ∧ AvOk K L B Hs Hi H x p ∧ AvOk K L B Hs Hi H y q ∧ w2 o p q k ∧ After K L B Hs Hi H k Q
def isCmp : O2 → Option CmpOp
  | .eq => some .Eq
  | .ne => some .NotEq
  | .lt => some .Lt
  | .le => some .LtE
  | .gt => some .Gt
  | .ge => some .GtE
  | .inn => some .In
  | .nin => some .NotIn
  | _ => none
def isBin : O2 → Option Operator
  | .add => some .Add
  | .sub => some .Sub
  | .mul => some .Mult
  | .fdiv => some .FloorDiv
  | .mod => some .Mod
  | .pow => some .Pow
  | _ => none
section
variable {X : Cx}
theorem op_bin {o : O2} {op : Operator} (ho : isBin o = some op) : OpR X (binaryOp op) (rW X.K o) := by
  intro pins s σ H x y v u Q I rx ry ⟨L, B, Hs, Hi, p, q, k, sm, ok, hs, hp, hq, ⟨a, b, ea, eb, hw⟩, after⟩
  have fl : ∀ z, k (.d (.int z)) → Q (.int z) H := fun z hk => after.flat hk sm ok (.int z)
  cases o with
  | add =>
    cases ho
    unfold b2 at hw
    cases a with
    | int i =>
      cases b with
      | int j => exact op_add pins s σ H x y v u Q I rx ry ⟨i, j, hp.int ea, hq.int eb, fl _ hw⟩
      | _ => exact hw.elim
    | str a =>
      cases b with
      | str b => exact op_add_str pins s σ H x y v u Q I rx ry ⟨a, b, hp.str ea, hq.str eb, hw.1, after.flat hw.2 sm ok (.str _)⟩
      | _ => exact hw.elim
    | list xs =>
      cases b with
      | list ys =>
        obtain ⟨a1, vs, rfl, h1, d1⟩ := hp.list sm ea
        obtain ⟨a2, ws, rfl, h2, d2⟩ := hq.list sm eb
        exact op_cat pins s σ H _ _ v u Q I rx ry ⟨a1, a2, vs, ws, rfl, rfl, h1, h2, by rw [d1.len, d2.len]; exact hw.1, after.newL hw.2 sm ok hs (d1.append d2)⟩
      | _ => exact hw.elim
    | tuple xs =>
      cases b with
      | tuple ys =>
        obtain ⟨a1, vs, rfl, g1, h1, d1⟩ := hp.tuple sm ea
        obtain ⟨a2, ws, rfl, g2, h2, d2⟩ := hq.tuple sm eb
        refine op_catA pins s σ H _ _ v u Q I rx ry ⟨a1, a2, vs, ws, rfl, rfl, h1, h2, by rw [d1.len, d2.len]; exact hw.1, fun e => ?_, fun _ e => ?_, fun _ _ => after.newT hw.2 sm ok (d1.append d2)⟩
        · subst e
          cases d1
          exact after.flat hw.2 sm ok (.tup g2 (by simpa using d2))
        · subst e
          cases d2
          exact after.flat hw.2 sm ok (.tup g1 (by simpa using d1))
      | _ => exact hw.elim
    | _ => exact hw.elim
  | sub =>
    cases ho
    unfold b2 at hw
    cases a with
    | int i =>
      cases b with
      | int j => exact op_sub pins s σ H x y v u Q I rx ry ⟨i, j, hp.int ea, hq.int eb, fl _ hw⟩
      | _ => exact hw.elim
    | _ => exact hw.elim
  | mul =>
    cases ho
    unfold b2 at hw
    cases a with
    | int i =>
      cases b with
      | int j =>
        obtain ⟨h1, h2⟩ := hw
        rcases h1 with h1 | h1 | h1
        · exact op_mul pins s σ H x y v u Q I rx ry ⟨i, j, hp.int ea, hq.int eb, .inl h1, fl _ h2⟩
        · exact op_mul pins s σ H x y v u Q I rx ry ⟨i, j, hp.int ea, hq.int eb, .inr h1, fl _ h2⟩
        · exact op_mulW pins s σ H x y v u Q I rx ry ⟨i, j, hp.int ea, hq.int eb, h1, fl _ h2⟩
      | _ => exact hw.elim
    | list xs =>
      cases b with
      | int n =>
        obtain ⟨a1, vs, rfl, h1, d1⟩ := hp.list sm ea
        obtain rfl := hq.int eb
        exact op_rep pins s σ H _ _ v u Q I rx ry ⟨a1, n, vs, rfl, rfl, h1, hw.1.1, hw.1.2.1, by rw [d1.len]; exact hw.1.2.2, after.newL hw.2 sm ok hs (d1.rep _)⟩
      | _ => exact hw.elim
    | tuple xs =>
      cases b with
      | int n =>
        obtain ⟨a1, vs, rfl, g1, h1, d1⟩ := hp.tuple sm ea
        obtain rfl := hq.int eb
        refine op_repA pins s σ H _ _ v u Q I rx ry ⟨a1, n, vs, rfl, rfl, h1, by rw [d1.len]; exact hw.1, fun e => ?_, fun _ => after.newT hw.2 sm ok (d1.rep _)⟩
        have e2 : (List.replicate n.toNat xs).flatten = xs := by
          rcases e with e | e
          · subst e
            cases d1
            simp
          · subst e
            simp
        have hw2 : k (.d (.tuple (List.replicate n.toNat xs).flatten)) := hw.2
        rw [e2] at hw2
        exact after.flat hw2 sm ok (.tup g1 d1)
      | _ => exact hw.elim
    | _ => exact hw.elim
  | fdiv =>
    cases ho
    unfold b2 at hw
    cases a with
    | int i =>
      cases b with
      | int j =>
        have r : OpR X (binaryOp .FloorDiv) (rI (fun _ j => DivOk j) fun i j => .int (i.fdiv j)) := opI fun _ _ _ _ _ _ _ hc q => PyProof.Rows.floordiv_int hc.1 q (.inl (PyProof.noPylong_of_log2 hc.2))
        exact r pins s σ H x y v u Q I rx ry ⟨i, j, hp.int ea, hq.int eb, hw.1, fl _ hw.2⟩
      | _ => exact hw.elim
    | _ => exact hw.elim
  | mod =>
    cases ho
    unfold b2 at hw
    cases a with
    | int i =>
      cases b with
      | int j => exact op_modN pins s σ H x y v u Q I rx ry ⟨i, j, hp.int ea, hq.int eb, hw.1, fl _ hw.2⟩
      | _ => exact hw.elim
    | _ => exact hw.elim
  | pow =>
    cases ho
    unfold b2 at hw
    cases a with
    | int i =>
      cases b with
      | int j => exact op_pow pins s σ H x y v u Q I rx ry ⟨i, j, hp.int ea, hq.int eb, hw.1, fl _ hw.2⟩
      | _ => exact hw.elim
    | _ => exact hw.elim
  | _ => cases ho
theorem eq_str {a b : PyData} {k : KA} (h : b2 .eq a b k) : (∃ i j, a = .str i ∧ b = .str j ∧ k (.d (.bool (decide (i = j))))) ∨ (shp a ∧ shp b ∧ k (.d (.bool (PyData.eqv a b)))) := by
  unfold b2 at h
  cases a <;> cases b <;> first | exact .inl ⟨_, _, rfl, rfl, h⟩ | exact .inr h
theorem ne_str {a b : PyData} {k : KA} (h : b2 .ne a b k) : (∃ i j, a = .str i ∧ b = .str j ∧ k (.d (.bool (!decide (i = j))))) ∨ (shp a ∧ shp b ∧ k (.d (.bool (!PyData.eqv a b)))) := by
  unfold b2 at h
  cases a <;> cases b <;> first | exact .inl ⟨_, _, rfl, rfl, h⟩ | exact .inr h
theorem dec_str (i j : Str) : decide (V.str i = V.str j) = decide (i = j) := by
  by_cases h : i = j
  · subst h
    simp
  · simp [h]
theorem strs_of {K : PySem.W.Frag} {H : Hp} : ∀ {vs : List V} {xs : List PyData} {zs : List Str}, DqAll K H vs xs → strsOf xs = some zs → vs = zs.map V.str
  | _, _, _, .nil, e => by
    cases e
    rfl
  | _, _, zs, .cons (d := d) (ds := ds) h t, e => by
    unfold strsOf at e
    cases d with
    | str i =>
      simp only at e
      cases q : strsOf ds with
      | none =>
        rw [q] at e
        cases e
      | some ms =>
        rw [q] at e
        cases e
        cases h
        rw [strs_of t q] <;> rfl
    | _ => cases e
theorem nums_of {K : PySem.W.Frag} {H : Hp} : ∀ {vs : List V} {xs : List PyData} {zs : List Int}, DqAll K H vs xs → intsOf xs = some zs → vs = zs.map V.int
  | _, _, _, .nil, e => by
    cases e
    rfl
  | _, _, zs, .cons (d := d) (ds := ds) h t, e => by
    unfold intsOf at e
    cases d with
    | int i =>
      simp only at e
      cases q : intsOf ds with
      | none =>
        rw [q] at e
        cases e
      | some ms =>
        rw [q] at e
        cases e
        cases h
        rw [nums_of t q] <;> rfl
    | _ => cases e
theorem inV_strs (z : Str) : ∀ zs : List Str, inV (.str z) (zs.map V.str) = decide (z ∈ zs)
  | [] => by simp [inV]
  | y :: zs => by
    have ih := inV_strs z zs
    unfold inV at ih ⊢
    rw [List.map_cons, List.any_cons, ih]
    show (y == z || decide (z ∈ zs)) = _
    by_cases h : y = z
    · subst h
      simp
    · have h' : ¬ z = y := fun e => h e.symm
      simp [h, h']
theorem inV_ints (z : Int) : ∀ zs : List Int, inV (.int z) (zs.map V.int) = decide (z ∈ zs)
  | [] => by simp [inV]
  | y :: zs => by
    have ih := inV_ints z zs
    unfold inV at ih ⊢
    rw [List.map_cons, List.any_cons, ih]
    show (y == z || decide (z ∈ zs)) = _
    by_cases h : y = z
    · subst h
      simp
    · have h' : ¬ z = y := fun e => h e.symm
      simp [h, h']
theorem flat_strs (zs : List Str) : (zs.map V.str).all flatV = true := by simp [flatV]
theorem flat_ints (zs : List Int) : (zs.map V.int).all flatV = true := by simp [flatV]
theorem op_cmp {o : O2} {op : CmpOp} (hu : X.A.units + 64 < cLine) (ho : isCmp o = some op) : OpR X (compareOp op) (rW X.K o) := by
  intro pins s σ H x y v u Q I rx ry ⟨L, B, Hs, Hi, p, q, k, sm, ok, hs, hp, hq, ⟨a, b, ea, eb, hw⟩, after⟩
  have fl : ∀ z, k (.d (.bool z)) → Q (.bl z) H := fun z hk => after.flat hk sm ok (.bl z)
  cases o with
  | eq =>
    cases ho
    rcases eq_str hw with ⟨i, j, rfl, rfl, hk⟩ | hw
    · obtain rfl := hp.str ea
      obtain rfl := hq.str eb
      exact op_eq pins s σ H _ _ v u Q I rx ry ⟨rfl, by rw [dec_str]; exact fl _ hk⟩
    · exact op_eqD hu pins s σ H x y v u Q I rx ry ⟨a, b, Dq.dp _ _ (hp.dq sm ea), Dq.dp _ _ (hq.dq sm eb), hw.1, hw.2.1, fl _ hw.2.2⟩
  | ne =>
    cases ho
    rcases ne_str hw with ⟨i, j, rfl, rfl, hk⟩ | hw
    · obtain rfl := hp.str ea
      obtain rfl := hq.str eb
      exact op_ne pins s σ H _ _ v u Q I rx ry ⟨rfl, by rw [dec_str]; exact fl _ hk⟩
    · exact op_neD hu pins s σ H x y v u Q I rx ry ⟨a, b, Dq.dp _ _ (hp.dq sm ea), Dq.dp _ _ (hq.dq sm eb), hw.1, hw.2.1, fl _ hw.2.2⟩
  | lt =>
    cases ho
    unfold b2 at hw
    cases a with
    | int i =>
      cases b with
      | int j => exact op_lt pins s σ H x y v u Q I rx ry ⟨i, j, hp.int ea, hq.int eb, fl _ hw⟩
      | _ => exact hw.elim
    | _ => exact hw.elim
  | le =>
    cases ho
    unfold b2 at hw
    cases a with
    | int i =>
      cases b with
      | int j => exact op_le pins s σ H x y v u Q I rx ry ⟨i, j, hp.int ea, hq.int eb, fl _ hw⟩
      | _ => exact hw.elim
    | _ => exact hw.elim
  | gt =>
    cases ho
    unfold b2 at hw
    cases a with
    | int i =>
      cases b with
      | int j => exact op_gt pins s σ H x y v u Q I rx ry ⟨i, j, hp.int ea, hq.int eb, fl _ hw⟩
      | _ => exact hw.elim
    | _ => exact hw.elim
  | ge =>
    cases ho
    unfold b2 at hw
    cases a with
    | int i =>
      cases b with
      | int j => exact op_ge pins s σ H x y v u Q I rx ry ⟨i, j, hp.int ea, hq.int eb, fl _ hw⟩
      | _ => exact hw.elim
    | _ => exact hw.elim
  | inn =>
    cases ho
    have go : ∀ {c : Addr} {vs : List V} {ys : List PyData}, y = .ref c → (SqL X.K H c vs ∨ SqT X.K H c vs) → DqAll X.K Hi vs ys → innW a ys (fun b => k (.d (.bool b))) → wpAny (model X.prog X.w) X.A (compareOp .In v u) (EP X pins σ Q) X.xe s := fun {c vs ys} e h1 d1 hw => by
      subst e
      rcases hw with ⟨z, zs, rfl, e, hk⟩ | ⟨z, zs, rfl, e, hk⟩
      · obtain rfl := hp.str ea
        obtain rfl := strs_of d1 e
        refine op_in_seq pins s σ H _ _ v u Q I rx ry ⟨c, _, rfl, h1, rfl, flat_strs _, ?_⟩
        rw [if_neg (by decide), inV_strs]
        exact fl _ hk
      · obtain rfl := hp.int ea
        obtain rfl := nums_of d1 e
        refine op_in_seq pins s σ H _ _ v u Q I rx ry ⟨c, _, rfl, h1, rfl, flat_ints _, ?_⟩
        rw [if_neg (by decide), inV_ints]
        exact fl _ hk
    unfold b2 at hw
    cases b with
    | list ys =>
      obtain ⟨a1, vs, e, h1, d1⟩ := hq.list sm eb
      exact go e (.inl (SqL.of h1)) d1 hw
    | tuple ys =>
      obtain ⟨a1, vs, e, g1, h1, d1⟩ := hq.tuple sm eb
      exact go e (.inr h1) d1 hw
    | _ => exact hw.elim
  | nin =>
    cases ho
    have go : ∀ {c : Addr} {vs : List V} {ys : List PyData}, y = .ref c → (SqL X.K H c vs ∨ SqT X.K H c vs) → DqAll X.K Hi vs ys → innW a ys (fun b => k (.d (.bool (!b)))) → wpAny (model X.prog X.w) X.A (compareOp .NotIn v u) (EP X pins σ Q) X.xe s := fun {c vs ys} e h1 d1 hw => by
      subst e
      rcases hw with ⟨z, zs, rfl, e, hk⟩ | ⟨z, zs, rfl, e, hk⟩
      · obtain rfl := hp.str ea
        obtain rfl := strs_of d1 e
        refine op_notIn_seq pins s σ H _ _ v u Q I rx ry ⟨c, _, rfl, h1, rfl, flat_strs _, ?_⟩
        rw [if_pos rfl, inV_strs]
        exact fl _ hk
      · obtain rfl := hp.int ea
        obtain rfl := nums_of d1 e
        refine op_notIn_seq pins s σ H _ _ v u Q I rx ry ⟨c, _, rfl, h1, rfl, flat_ints _, ?_⟩
        rw [if_pos rfl, inV_ints]
        exact fl _ hk
    unfold b2 at hw
    cases b with
    | list ys =>
      obtain ⟨a1, vs, e, h1, d1⟩ := hq.list sm eb
      exact go e (.inl (SqL.of h1)) d1 hw
    | tuple ys =>
      obtain ⟨a1, vs, e, g1, h1, d1⟩ := hq.tuple sm eb
      exact go e (.inr h1) d1 hw
    | _ => exact hw.elim
  | _ => cases ho
theorem ix_w : IxR X (rW X.K .idx) := by
  intro value slice pins s σ H x y v u Q I rx ry ⟨L, B, Hs, Hi, p, q, k, sm, ok, hs, hp, hq, ⟨a, b, ea, eb, hw⟩, after⟩ hsub
  unfold b2 at hw
  cases a with
  | list xs =>
    cases b with
    | int i =>
      obtain ⟨d, e, hk⟩ := hw
      obtain ⟨a1, vs, rfl, h1, d1⟩ := hp.list sm ea
      obtain rfl := hq.int eb
      obtain ⟨w, ew, dw⟩ := d1.at_ e
      exact ix_list value slice pins s σ H _ _ v u Q I rx ry ⟨a1, vs, i, w, rfl, rfl, SqL.of h1, ew, after.flat hk sm ok dw⟩ hsub
    | _ => exact hw.elim
  | tuple xs =>
    cases b with
    | int i =>
      obtain ⟨d, e, hk⟩ := hw
      obtain ⟨a1, vs, rfl, g1, h1, d1⟩ := hp.tuple sm ea
      obtain rfl := hq.int eb
      obtain ⟨w, ew, dw⟩ := d1.at_ e
      exact ix_tup value slice pins s σ H _ _ v u Q I rx ry ⟨a1, vs, i, w, rfl, rfl, h1, ew, after.flat hk sm ok dw⟩ hsub
    | _ => exact hw.elim
  | _ => exact hw.elim
/-- one worth and a word -/
def rW1 (K : PySem.W.Frag) (w : AV → KA → Prop) : V → Hp → VK → Prop := fun x H Q => ∃ L B Hs Hi p k, Same Hi H ∧ L.ok H ∧ (∀ a, H a = none → Hs a = none) ∧ AvOk K L B Hs Hi H x p ∧ w p k ∧ After K L B Hs Hi H k Q
theorem un_w : UnR X (unaryOp .USub) (rW1 X.K (w1 .neg)) := by
  intro pins s σ H x v Q I rx ⟨L, B, Hs, Hi, p, k, sm, ok, hs, hp, ⟨a, ea, hw⟩, after⟩
  unfold b1 at hw
  cases a with
  | int i => exact un_neg pins s σ H x v Q I rx ⟨i, hp.int ea, after.flat hw sm ok (.int _)⟩
  | _ => exact hw.elim
theorem sl_w (lo hi : Option Int) : ∀ (pins : List (Addr × Obj)) (s : Shared) (σ : L2.St) (H : Hp) (x : V) (v vl vu : Value) (sl : Addr) (Q : VK), Inv X pins σ H s → RelV x v → s.heap.IsSliceOf sl vl vu .none → IsPart vl lo → IsPart vu hi → rW1 X.K (fun a k => slcW a lo hi k) x H Q →
    ∃ T id, typeLookup (.type T) "__getitem__" = pure (some (.builtin id)) ∧ s.TypeIs v T ∧ wpAny (model X.prog X.w) X.A (getItem v (.ref sl)) (EP X pins σ Q) X.xe s := by
  intro pins s σ H x v vl vu sl Q I rx hsl pl pu ⟨L, B, Hs, Hi, p, k, sm, ok, hs, hp, ⟨a, ea, hw⟩, after⟩
  cases a with
  | list xs =>
    obtain ⟨a1, vs, rfl, h1, d1⟩ := hp.list sm ea
    exact sl_list pins s σ H _ v vl vu lo hi sl Q I rx hsl pl pu ⟨a1, vs, rfl, SqL.of h1, after.newL hw sm ok hs (d1.cut lo hi)⟩
  | tuple xs =>
    obtain ⟨a1, vs, rfl, g1, h1, d1⟩ := hp.tuple sm ea
    refine sl_tupA pins s σ H _ v vl vu lo hi sl Q I rx hsl pl pu ⟨a1, vs, rfl, h1, fun e => ?_, fun _ => after.newT hw sm ok (d1.cut lo hi)⟩
    have e2 : cut xs lo hi = xs := by
      unfold cut
      rw [← d1.len, e.1, e.2]
      simp [d1.len]
    have hw' : k (.d (.tuple (cut xs lo hi))) := hw
    rw [e2] at hw'
    exact after.flat hw' sm ok (.tup g1 d1)
  | _ => exact hw.elim
end
end Un
end
section
/-! Un: set(a list of ints), as a call; sorted(set(..)) as a list. -/
namespace Un
open PySem PySem.Spec L2 PyProof.Rows
section
variable {P : Program} {w : World} {A : Around} {E : Value → Shared → Prop} {s : Shared}
abbrev emptySet (w : World) : Obj := { cls := .type "set", dict := none, data := .set #[] 0 (.fresh 0 0 (!w.params.followText "set-order")) }
theorem set_of_list {l : Addr} {items : Array Value} (ns : List Int) {Q : Value → Shared → Prop} (hh : A.handled = none) (hl : s.heap.IsList l items) (hit : IntsAre items.toList ns) (hb : ns.length + 1 < scanBound)
    (h : ∀ (h' : Heap) (tk c : Nat), SetR w h' s.heap.objs.size (fun j => decide (j ∈ ns)) c → c ≤ ns.length → (∀ b o, s.heap.get? b = some o → h'.get? b = some o) → Q (.ref s.heap.objs.size) { s with heap := h', toks := tk }) :
    wpAny (model P w) A (call (.type "set") [.ref l]) Q E s := by
  have len : items.size = ns.length := by
    have := IntsAre.length hit
    rwa [Array.length_toList] at this
  obtain ⟨c, tl, hmro⟩ := F.called_set.mro
  have made := F.called_set.made
  have sub := F.called_set.sub
  have t1 := F.called_set.notType
  have t2 := F.called_set.canCreate
  have t3 := F.typeCall_set_1 (.ref l)
  refine wpAny_call (codeAny_of_tree ?_)
  show wpAny _ _ (callAny (.type "set") _) _ _ _
  refine wpAny_pure ⟨Code.quiet_builtin _ (by decide +kernel), codeAny_builtin F.entry_type_call ?_⟩
  rw [Around.under_plain (weight_type_call_type "set" [.ref l] []) rfl]
  repeat (any_goals (first | assumption | wp_step))
  refine codeAny_mono (code_set_led1 (.ref l) (E := E) (Q₁ := fun obj s₁ => obj = .ref s.heap.objs.size ∧ s₁ = { s with heap := s.heap.push (emptySet w) }) ⟨rfl, rfl⟩) fun r s₁ hr => ?_
  cases r with
  | error e => exact hr
  | ok fl =>
    cases fl with
    | ret obj =>
      obtain ⟨rfl, rfl⟩ := hr
      have hS : (s.heap.push (emptySet w)).get? s.heap.objs.size = some (emptySet w) := Heap.get?_push_size _ rfl
      have hT : Shared.TypeIs { s with heap := s.heap.push (emptySet w) } (.ref s.heap.objs.size) "set" := ⟨_, hS, rfl⟩
      have i1 := F.called_set.init.lookup
      have i2 := F.called_set.init.bind (.ref s.heap.objs.size)
      repeat (any_goals (first | assumption | wp_step))
      refine codeAny_mono (codeAny_call_builtin (R := wants (fun r s₂ => r = .none ∧ ∃ h' tk c, s₂ = { s with heap := h', toks := tk } ∧ SetR w h' s.heap.objs.size (fun j => decide (j ∈ ns)) c ∧ c ≤ ns.length ∧
          (∀ b o, s.heap.get? b = some o → h'.get? b = some o)) E) F.called_set.init.plain F.entry_set_init (check_set_init_1 hT ?_)) fun r₂ s₂ hr₂ => ?_
      · obtain ⟨ol, hol, hcl, nl, hdl⟩ := hl
        obtain ⟨ocls, odict, odata, oslots⟩ := ol
        simp only at hcl hdl
        subst hcl hdl
        have hol' : (s.heap.push (emptySet w)).get? l = some { cls := .type "list", dict := odict, data := .seq items nl, slots := oslots } := Heap.get?_push_of_some _ hol
        have k1 := F.sub_list_set
        have k2 := F.sub_list_frozenset
        have k3 : (Value.type "list" == Value.type "dict") = false := by decide
        have hl1 : (s.heap.push (emptySet w)).IsList l items := ⟨_, hol', rfl, nl, rfl⟩
        unfold Builtin.«set.__init__» noKeywords Builtin.Frozenset.updateFrom
        generalize hPI : pyIter = PI
        wp_walk
        subst hPI
        refine wpAny_pyIter_list hl1 ?_
        refine wpAny_bind (wpAny_runValue ?_)
        have hlS : l < s.heap.objs.size := Heap.lt_size hol
        have hh3 : A.in1.in1.in1.handled = none := by simp [hh]
        have hneI : l ≠ (s.heap.push (emptySet w)).objs.size := by
          rw [Heap.size_push]
          exact Nat.ne_of_lt (Nat.lt_succ_of_lt hlS)
        have hSf : s.heap.objs.size ∉ [(s.heap.push (emptySet w)).objs.size, l] := by
          rw [Heap.size_push]
          simp only [List.mem_cons, List.mem_singleton, List.not_mem_nil, or_false, not_or]
          exact ⟨Nat.ne_of_lt (Nat.lt_succ_self _), Nat.ne_of_gt hlS⟩
        have hval : ∀ (i : Nat) (v : Value), items[i]? = some v → ∃ k t, ns[i]? = some k ∧ v = .int k t := fun i v hv => by
          have hi : i < ns.length := by rw [← len]; exact (Array.getElem?_eq_some_iff.mp hv).1
          obtain ⟨t, e⟩ := PyProof.Rows.IntsAre.int_at hit i v (by rw [Array.getElem?_toList]; exact hv)
          refine ⟨ns[i], t, List.getElem?_eq_getElem hi, ?_⟩
          rw [e, List.getD_eq_getElem?_getD, List.getElem?_eq_getElem hi] <;> rfl
        refine set_update_ints ((Walks.list hh3 _ l hneI items).toS) s.heap.objs.size hSf ns len hb hval (items.size - 0) 0 _ (by omega) (Nat.zero_le _)
          ⟨⟨_, Heap.get?_push_size _ rfl, rfl, rfl⟩, (hl1.push _)⟩ ⟨0, Nat.le_refl 0, setR_new_at (Heap.get?_push_of_some _ hS)⟩ ?_
        intro s' c' hm hc' hS'
        obtain ⟨h', g2, d', tk', os'⟩ := s'
        have eg : g2 = s.gens := hm.gens
        have ed : d' = s.drawn := hm.drawn
        have eo : os' = s.os := hm.os
        subst eg ed eo
        refine wpAny_pure ?_
        show wpAny _ _ (ret Value.none) _ _ _
        rw [len] at hc'
        refine wpAny_pure ⟨rfl, h', tk', c', rfl, hS', hc', fun b o e => ?_⟩
        have b0 : b < s.heap.objs.size := Heap.lt_size e
        refine hm.heap b o ?_ (Heap.get?_push_of_some _ (Heap.get?_push_of_some _ e))
        rw [Heap.size_push]
        simp only [List.mem_cons, List.mem_singleton, List.not_mem_nil, or_false, not_or]
        exact ⟨Nat.ne_of_lt b0, Nat.ne_of_lt (Nat.lt_succ_of_lt b0)⟩
      · cases r₂ with
        | error e => exact hr₂
        | ok fl₂ =>
          cases fl₂ with
          | ret r =>
            obtain ⟨rfl, h', tk, c', rfl, hS', hc', hk'⟩ := hr₂
            repeat (any_goals (first | assumption | wp_step))
            exact h _ _ _ hS' hc' hk'
          | _ => exact hr₂.elim
    | _ => exact hr.elim
end
section
variable {X : Cx}
def rSetI (K : PySem.W.Frag) (w : World) : List V → Hp → VK → Prop := fun xs H Q => ∃ (l : Addr) (ns : List Int), xs = [V.ref l] ∧ SqL K H l (ns.map V.int) ∧ ns.length + 1 < scanBound ∧
  ∀ p c, H p = none → c ≤ ns.length → Q (.ref p) (upd H p (SetO w p (fun j => decide (j ∈ ns)) c))
theorem cr_setI (hc : X.calm = true) : CallR X (.type "set") (rSetI X.K X.w) := by
  intro pins s σ H xs us Q I r h
  obtain ⟨l, ns, rfl, hs, hb, q⟩ := h
  obtain ⟨its, rv, hl, hz⟩ := I.list hs
  rw [Vals.ref1 r]
  have hl' : s.heap.IsList l its.toArray := by
    obtain ⟨o, n, e1, e2, e3, e4⟩ := hl
    exact ⟨o, e1, e2, n, e4⟩
  refine set_of_list ns (I.ok.hd hc) hl' (by simpa using ints_vals rv) hb fun h' tk c new hcl keep => ?_
  refine ⟨.ref _, upd H s.heap.objs.size (SetO X.w s.heap.objs.size (fun j => decide (j ∈ ns)) c), I.laid (t' := tk) (fun b u e => keep b u e) (Nat.le_refl _) (setO_new new), rfl, q _ c (I.hok.fresh (Nat.le_refl _)) hcl⟩
end
end Un
end
section
/-! Un: sorted of truth values. -/
namespace SrtO
open PySem PyProof.Rows Srt
section
variable {prog : Program} {w : World} {A : Around} {E : Value → Shared → Prop} {s : Shared}
def bv : Value → Int
  | .bool b => if b then 1 else 0
  | _ => 0
def ltBv (v u : Value) : Bool := decide (bv v < bv u)
theorem swo_bool : Swo ltBv := by
  refine ⟨fun x y h => ?_, fun x y z h1 h2 => ?_⟩
  · have a := of_decide_eq_true (p := bv x < bv y) h
    exact decide_eq_false (p := bv y < bv x) (by omega)
  · have a := of_decide_eq_false (p := bv y < bv x) h1
    have b := of_decide_eq_false (p := bv z < bv y) h2
    exact decide_eq_false (p := bv z < bv x) (by omega)
theorem mapM_first_bools : ∀ bs : List Bool, (bs.map Value.bool).mapM firstOfTuple' = pure ((bs.map Value.bool).map fun _ => none)
  | [] => by simp
  | b :: bs => by
    have e : firstOfTuple' (.bool b) = pure none := rfl
    rw [List.map_cons, List.mapM_cons, e, mapM_first_bools bs]
    simp
theorem mapM_typeOf_bools : ∀ bs : List Bool, (bs.map Value.bool).mapM typeOf = pure ((bs.map Value.bool).map fun _ => Value.type "bool")
  | [] => by simp
  | b :: bs => by
    rw [List.map_cons, List.mapM_cons, mapM_typeOf_bools bs]
    show (pure (Value.type "bool") >>= fun b => pure _ >>= fun bs => pure (b :: bs)) = _
    simp
theorem keyKind_bools (b c : Bool) (bs : List Bool) : keyKind' ((b :: c :: bs).map Value.bool).toArray = pure oneType' := by
  rw [keyKind'_eq, List.mapM_toArray, mapM_first_bools]
  simp only [map_pure, pure_bind]
  rw [if_neg (by simp), if_neg (by simp)]
  rw [oneTypeOnly'_eq, List.mapM_toArray, mapM_typeOf_bools]
  simp only [map_pure, pure_bind]
  have hall : ((List.map (fun _ => Value.type "bool") ((b :: c :: bs).map Value.bool)).toArray.all fun x => x == Value.type "bool") = true := by
    simp only [List.all_toArray, List.all_map, List.all_eq_true]
    intro _ _
    rfl
  have h0 : (List.map (fun _ => Value.type "bool") ((b :: c :: bs).map Value.bool)).toArray[0]? = some (Value.type "bool") := by simp
  rw [h0]
  simp only [hall, if_true, pure_bind, Option.isSome_some]
theorem call_bool_lt {a b : Bool} {Q : Value → Shared → Prop} (h : Q (.bool (decide (bv (.bool a) < bv (.bool b)))) s) :
    wpAny (model prog w) A (call (.builtin "int.__lt__") [.bool a, .bool b]) Q E s := by
  refine wpAny_call_entry PySem.F.slot_bool_lt (typeIs_bool' s a) PySem.F.entry_int_lt ?_ (PySem.F.args_int_lt_2 _ _)
  show wpAny _ _ (ret (.bool (decide (bv (.bool a) < bv (.bool b))))) _ _ s
  exact wpAny_pure ⟨_, rfl, h⟩
theorem oneLt_bool {a b : Bool} {Q : Bool → Shared → Prop} (h : Q (ltBv (.bool a) (.bool b)) s) : wpAny (model prog w) A (oneLt' true (.bool a) (.bool b)) Q E s := by
  rw [oneLt'_eq]
  simp only [if_true]
  refine wpAny_bind (wpAny_cRoomFor_byValue rfl ?_)
  refine wpAny_bind (wpAny_callSpecialIfBound?_slot (typeIs_bool' s a) PySem.F.slot_bool_lt (call_bool_lt ?_))
  exact wpAny_truthy_bool h
theorem bools_mem {bs : List Bool} {v : Value} (h : v ∈ bs.map Value.bool) : ∃ b, v = .bool b := by
  obtain ⟨b, _, rfl⟩ := List.mem_map.mp h
  exact ⟨b, rfl⟩
theorem bool_cmp (bs : List Bool) : Cmp prog w A s oneType' (fun p => p.1 ∈ bs.map Value.bool) (lt2 ltBv) := by
  intro p q hm hm'
  obtain ⟨a, e⟩ := bools_mem hm
  obtain ⟨b, e'⟩ := bools_mem hm'
  show wpAny (model prog w) A (keyLt' oneType' p.1 q.1) (fun r s' => s' = s ∧ r = ltBv p.1 q.1) (fun _ _ => False) s
  rw [e, e', keyLt'_oneType]
  exact oneLt_bool ⟨rfl, rfl⟩
theorem bools_sortable {a : Addr} {bs : List Bool} (h2 : 2 ≤ (bs.map Value.bool).length) : SortableO prog w A s a (bs.map Value.bool) ltBv := by
  intro h' _
  refine ⟨oneType', fun Q E hq => ?_, bool_cmp bs⟩
  match bs, h2 with
  | b :: c :: rest, _ =>
    rw [keyKind_bools]
    exact wpAny_pure hq
  | [], h => exact absurd h (by decide)
  | [v], h => exact absurd h (by simp)
def unB : Value → Bool
  | .bool b => b
  | _ => false
theorem bools_out {bs : List Bool} {out : List Value} (hs : Srtd ltBv out) (hb : Stb ltBv out (bs.map Value.bool)) : out = (out.map unB).map Value.bool ∧ (out.map unB).Perm bs ∧ (out.map unB).Pairwise (fun a b => a = true → b = true) := by
  have hm : ∀ v ∈ out, ∃ b, v = .bool b := fun v hv => bools_mem (hb.perm.mem_iff.mp hv)
  refine ⟨?_, ?_, ?_⟩
  · rw [List.map_map]
    have e : out.map (Value.bool ∘ unB) = out.map id := List.map_congr_left fun v hv => by
      obtain ⟨b, rfl⟩ := hm v hv
      rfl
    rw [e, List.map_id]
  · have q := hb.perm.map unB
    rw [List.map_map] at q
    have e : (unB ∘ Value.bool) = id := rfl
    rw [e, List.map_id] at q
    exact q
  · refine List.pairwise_map.mpr (hs.imp_of_mem fun {x y} hx hy h => ?_)
    obtain ⟨a, rfl⟩ := hm x hx
    obtain ⟨b, rfl⟩ := hm y hy
    have h := of_decide_eq_false (p := bv (.bool b) < bv (.bool a)) h
    cases a <;> cases b <;> simp_all [unB, bv]
end
end SrtO
namespace L2
open PySem PySem.Spec PyProof.Rows
/-- sorted(xs), truth values -/
def rSortedB (K : PySem.W.Frag) : List V → Hp → VK → Prop := fun vs H Q => ∃ (a : Addr) (bs : List Bool), vs = [V.ref a] ∧ SqL K H a (bs.map V.bl) ∧
  ∀ (bs' : List Bool) (p : Addr), bs'.Perm bs → bs'.Pairwise (fun a b => a = true → b = true) → H p = none → Q (.ref p) (upd H p (.lst (bs'.map V.bl)))
section
variable {X : Cx}
theorem vals_bools : ∀ {bs : List Bool} {us : List Value}, Vals (bs.map V.bl) us → us = bs.map Value.bool
  | [], _, h => by cases h; rfl
  | b :: bs, _, h => by
    cases h with
    | cons r t =>
      cases r
      rw [vals_bools t]
      rfl
theorem bools_vals : ∀ bs : List Bool, Vals (bs.map V.bl) (bs.map Value.bool)
  | [] => .nil
  | b :: bs => .cons rfl (bools_vals bs)
theorem cr_sortedB : CallR X (.builtin "sorted") (rSortedB X.K) := by
  intro pins s σ H vs us Q I r h
  obtain ⟨a, bs, rfl, hs, q⟩ := h
  obtain ⟨its, rv, hl, hz⟩ := I.list hs
  rw [Vals.ref1 r]
  obtain rfl := vals_bools rv
  refine SrtO.sorted_ord SrtO.swo_bool hl.isList (by rw [← rv.length]; exact hz) (fun h2 h₁ a' _ _ => SrtO.bools_sortable h2) fun out h1 h2 => ?_
  obtain ⟨k1, k2, k3⟩ := SrtO.bools_out h1 h2
  obtain ⟨ep, he'⟩ := PyProof.Rows.sortedAll_at s.heap (bs.map Value.bool) out.toArray
  have hlen : ((out.map SrtO.unB).map V.bl).length ≤ sizeLine := by
    rw [List.length_map, k2.length_eq]
    rw [List.length_map] at hz
    exact hz
  exact ⟨.ref _, upd H (s.heap.objs.size + 1) (.lst ((out.map SrtO.unB).map V.bl)), I.laid (t' := s.toks) (fun _ _ => PyProof.Rows.sortedAll_old) (Nat.le_succ _) ⟨hlen, out, ep, by have := bools_vals (out.map SrtO.unB); rwa [← k1] at this, he'⟩, rfl, q _ _ k2 k3 (I.hok.fresh (Nat.le_succ _))⟩
end
end L2
end
section
/-! Un: the built-ins by plain data. -/
namespace Un
open PySem PySem.Spec L2
section
variable {X : Cx}
/-- a call of one worth -/
def rC1 (K : PySem.W.Frag) (w : AV → KA → Prop) : List V → Hp → VK → Prop := fun xs H Q => ∃ x, xs = [x] ∧ rW1 K w x H Q
def rC3 (K : PySem.W.Frag) (w : AV → AV → AV → KA → Prop) : List V → Hp → VK → Prop := fun xs H Q => ∃ x y z L B Hs Hi p q r k, xs = [x, y, z] ∧ Same Hi H ∧ L.ok H ∧ (∀ a, H a = none → Hs a = none) ∧ AvOk K L B Hs Hi H x p ∧ AvOk K L B Hs Hi H y q ∧ AvOk K L B Hs Hi H z r ∧ w p q r k ∧ After K L B Hs Hi H k Q
def rC2 (K : PySem.W.Frag) (w : AV → AV → KA → Prop) : List V → Hp → VK → Prop := fun xs H Q => ∃ x y L B Hs Hi p q k, xs = [x, y] ∧ Same Hi H ∧ L.ok H ∧ (∀ a, H a = none → Hs a = none) ∧ AvOk K L B Hs Hi H x p ∧ AvOk K L B Hs Hi H y q ∧ w p q k ∧ After K L B Hs Hi H k Q
theorem call_lenW : CallR X (.builtin "len") (rC1 X.K (w1 .len)) := by
  intro pins s σ H xs us Q I r h
  obtain ⟨x, rfl, L, B, Hs, Hi, p, k, sm, ok, hs, hp, ⟨a, ea, hw⟩, after⟩ := h
  unfold b1 at hw
  cases a with
  | list ys =>
    obtain ⟨a1, vs, rfl, h1, d1⟩ := hp.list sm ea
    exact call_len_seq pins s σ H _ us Q I r ⟨a1, vs, rfl, .inl (SqL.of h1), after.flat (by rw [d1.len]; exact hw) sm ok (.int _)⟩
  | tuple ys =>
    obtain ⟨a1, vs, rfl, g1, h1, d1⟩ := hp.tuple sm ea
    exact call_len_seq pins s σ H _ us Q I r ⟨a1, vs, rfl, .inr h1, after.flat (by rw [d1.len]; exact hw) sm ok (.int _)⟩
  | str z =>
    obtain rfl := hp.str ea
    exact call_len_str pins s σ H _ us Q I r ⟨z, rfl, hw.1, after.flat hw.2 sm ok (.int _)⟩
  | _ => exact hw.elim
theorem call_intW : CallR X (.type "int") (rC1 X.K (w1 .int)) := by
  intro pins s σ H xs us Q I r h
  obtain ⟨x, rfl, L, B, Hs, Hi, p, k, sm, ok, hs, hp, ⟨a, ea, hw⟩, after⟩ := h
  unfold b1 at hw
  cases a with
  | int i =>
    obtain rfl := hp.int ea
    exact call_int1 pins s σ H _ us Q I r (.inl ⟨i, rfl, after.flat hw sm ok (.int _)⟩)
  | bool b =>
    obtain rfl := hp.bool ea
    exact call_int1 pins s σ H _ us Q I r (.inr ⟨b, rfl, after.flat hw sm ok (.int _)⟩)
  | _ => exact hw.elim
theorem call_absW : CallR X (.builtin "abs") (rC1 X.K (w1 .abs)) := by
  intro pins s σ H xs us Q I r h
  obtain ⟨x, rfl, L, B, Hs, Hi, p, k, sm, ok, hs, hp, ⟨a, ea, hw⟩, after⟩ := h
  unfold b1 at hw
  cases a with
  | int i =>
    obtain rfl := hp.int ea
    exact call_abs pins s σ H _ us Q I r ⟨i, rfl, after.flat hw sm ok (.int _)⟩
  | _ => exact hw.elim
theorem call_listW : CallR X (.type "list") (rC1 X.K (w1 .list)) := by
  intro pins s σ H xs us Q I r h
  obtain ⟨x, rfl, L, B, Hs, Hi, p, k, sm, ok, hs, hp, ⟨a, ea, hw⟩, after⟩ := h
  unfold b1 at hw
  cases a with
  | list ys =>
    obtain ⟨a1, vs, rfl, h1, d1⟩ := hp.list sm ea
    exact call_list_of pins s σ H _ us Q I r ⟨a1, vs, rfl, .inl (SqL.of h1), after.newL hw sm ok hs d1⟩
  | tuple ys =>
    obtain ⟨a1, vs, rfl, g1, h1, d1⟩ := hp.tuple sm ea
    exact call_list_of pins s σ H _ us Q I r ⟨a1, vs, rfl, .inr h1, after.newL hw sm ok hs d1⟩
  | _ => exact hw.elim
theorem call_tupleW : CallR X (.type "tuple") (rC1 X.K (w1 .tuple)) := by
  intro pins s σ H xs us Q I r h
  obtain ⟨x, rfl, L, B, Hs, Hi, p, k, sm, ok, hs, hp, ⟨a, ea, hw⟩, after⟩ := h
  unfold b1 at hw
  cases a with
  | list ys =>
    obtain ⟨a1, vs, rfl, h1, d1⟩ := hp.list sm ea
    exact call_tuple_of pins s σ H _ us Q I r ⟨a1, vs, rfl, .inl ⟨SqL.of h1, after.newT hw sm ok d1⟩⟩
  | tuple ys =>
    obtain ⟨a1, vs, rfl, g1, h1, d1⟩ := hp.tuple sm ea
    exact call_tuple_of pins s σ H _ us Q I r ⟨a1, vs, rfl, .inr ⟨h1, after.flat hw sm ok (.tup g1 d1)⟩⟩
  | _ => exact hw.elim
theorem bools_of {K : PySem.W.Frag} {H : Hp} : ∀ {vs : List V} {xs : List PyData} {bs : List Bool}, DqAll K H vs xs → boolsOf xs = some bs → vs = bs.map V.bl
  | _, _, _, .nil, e => by
    cases e
    rfl
  | _, _, bs, .cons (d := d) h t, e => by
    cases d with
    | bool b =>
      unfold boolsOf at e
      cases q : boolsOf _ with
      | none =>
        rw [q] at e
        cases e
      | some cs =>
        rw [q] at e
        cases e
        cases h
        rw [bools_of t q]
        rfl
    | _ => cases e
theorem ints_of' {K : PySem.W.Frag} {H : Hp} : ∀ {vs : List V} {xs : List PyData} {ns : List Int}, DqAll K H vs xs → intsOf xs = some ns → vs = ns.map V.int
  | _, _, _, .nil, e => by
    cases e
    rfl
  | _, _, ns, .cons (d := d) (ds := ds) h t, e => by
    unfold intsOf at e
    cases d with
    | int i =>
      simp only at e
      cases q : intsOf ds with
      | none =>
        rw [q] at e
        cases e
      | some ms =>
        rw [q] at e
        cases e
        cases h
        rw [ints_of' t q]
        rfl
    | _ => cases e
theorem insI_mem (k j : Int) : ∀ l : List Int, j ∈ insI k l ↔ j = k ∨ j ∈ l
  | [] => by simp [insI]
  | a :: l => by
    unfold insI
    split
    · simp
    · split
      · rename_i h
        subst h
        simp
      · simp only [List.mem_cons, insI_mem k j l]
        constructor
        · rintro (h | h | h) <;> simp [h]
        · rintro (h | h | h) <;> simp [h]
theorem insI_asc (k : Int) : ∀ {l : List Int}, l.Pairwise (· < ·) → (insI k l).Pairwise (· < ·)
  | [], _ => by simp [insI]
  | a :: l, h => by
    rw [List.pairwise_cons] at h
    unfold insI
    split
    · rename_i hk
      rw [List.pairwise_cons]
      refine ⟨fun b hb => ?_, List.pairwise_cons.mpr h⟩
      rcases List.mem_cons.mp hb with rfl | hb
      · exact hk
      · exact Int.lt_trans hk (h.1 b hb)
    · split
      · exact List.pairwise_cons.mpr h
      · rename_i h1 h2
        rw [List.pairwise_cons]
        refine ⟨fun b hb => ?_, insI_asc k h.2⟩
        rcases (insI_mem k b l).mp hb with rfl | hb
        · omega
        · exact h.1 b hb
theorem srtI_mem (j : Int) : ∀ l : List Int, j ∈ srtI l ↔ j ∈ l
  | [] => by simp [srtI]
  | k :: l => by
    show j ∈ insI k (srtI l) ↔ _
    rw [insI_mem, srtI_mem j l, List.mem_cons]
theorem srtI_asc : ∀ l : List Int, (srtI l).Pairwise (· < ·)
  | [] => List.Pairwise.nil
  | k :: l => insI_asc k (srtI_asc l)
theorem asc_one : ∀ {l m : List Int}, l.Pairwise (· < ·) → m.Pairwise (· < ·) → (∀ j, j ∈ l ↔ j ∈ m) → l = m
  | [], [], _, _, _ => rfl
  | [], b :: m, _, _, h => by simpa using (h b).mpr (List.mem_cons_self ..)
  | a :: l, [], _, _, h => by simpa using (h a).mp (List.mem_cons_self ..)
  | a :: l, b :: m, hl, hm, h => by
    rw [List.pairwise_cons] at hl hm
    have e : a = b := by
      have h1 := (h a).mp (List.mem_cons_self ..)
      have h2 := (h b).mpr (List.mem_cons_self ..)
      rcases List.mem_cons.mp h1 with e | h1
      · exact e
      · rcases List.mem_cons.mp h2 with e | h2
        · exact e.symm
        · have := hm.1 a h1
          have := hl.1 b h2
          omega
    subst e
    refine congrArg (a :: ·) (asc_one hl.2 hm.2 fun j => ?_)
    constructor
    · intro hj
      rcases List.mem_cons.mp ((h j).mp (List.mem_cons_of_mem _ hj)) with rfl | z
      · exact absurd (hl.1 j hj) (by omega)
      · exact z
    · intro hj
      rcases List.mem_cons.mp ((h j).mpr (List.mem_cons_of_mem _ hj)) with rfl | z
      · exact absurd (hm.1 j hj) (by omega)
      · exact z
theorem call_sumW (hc : X.calm = true) : CallR X (.builtin "sum") (rC1 X.K (w1 .sum)) := by
  intro pins s σ H xs us Q I r h
  obtain ⟨x, rfl, L, B, Hs, Hi, p, k, sm, ok, hs, hp, ⟨a, ea, hw⟩, after⟩ := h
  unfold b1 at hw
  cases a with
  | list ys =>
    obtain ⟨ns, e, hk⟩ := hw
    obtain ⟨a1, vs, rfl, h1, d1⟩ := hp.list sm ea
    obtain rfl := ints_of' d1 e
    exact cr_sum hc pins s σ H _ us Q I r ⟨a1, ns, rfl, SqL.of h1, after.flat hk sm ok (.int _)⟩
  | _ => exact hw.elim
theorem dq_ints {K : PySem.W.Frag} {H : Hp} : ∀ ns : List Int, DqAll K H (ns.map V.int) (ns.map PyData.int)
  | [] => .nil
  | i :: r => .cons (.int i) (dq_ints r)
theorem call_srtW : CallR X (.builtin "sorted") (rC1 X.K (w1 .srt)) := by
  intro pins s σ H xs us Q I r h
  obtain ⟨x, rfl, L, B, Hs, Hi, p, k, sm, ok, hs, hp, ⟨a, ea, hw⟩, after⟩ := h
  unfold b1 at hw
  cases a with
  | list ys =>
    obtain ⟨a1, vs, rfl, h1, d1⟩ := hp.list sm ea
    rcases hw with ⟨ns, e, hk⟩ | ⟨bs, e, hk⟩
    · obtain rfl := ints_of' d1 e
      exact cr_sortedI pins s σ H _ us Q I r ⟨a1, ns, rfl, SqL.of h1, fun ns' p' h2 h3 hp' => after.newL (hk ns' h2 h3) sm ok hs (dq_ints ns') p' hp'⟩
    · obtain rfl := bools_of d1 e
      have dq : ∀ bs' : List Bool, DqAll X.K Hi (bs'.map V.bl) (bs'.map PyData.bool) := fun bs' => by
        induction bs' with
        | nil => exact .nil
        | cons i r ih => exact .cons (.bl i) ih
      exact cr_sortedB pins s σ H _ us Q I r ⟨a1, bs, rfl, SqL.of h1, fun bs' p' h2 h3 hp' => after.newL (hk bs' h2 h3) sm ok hs (dq bs') p' hp'⟩
  | _ => exact hw.elim
theorem call_allW (hc : X.calm = true) : CallR X (.builtin "all") (rC1 X.K (w1 .all)) := by
  intro pins s σ H xs us Q I r h
  obtain ⟨x, rfl, L, B, Hs, Hi, p, k, sm, ok, hs, hp, ⟨a, ea, hw⟩, after⟩ := h
  unfold b1 at hw
  cases a with
  | list ys =>
    obtain ⟨bs, e, hk⟩ := hw
    obtain ⟨a1, vs, rfl, h1, d1⟩ := hp.list sm ea
    obtain rfl := bools_of d1 e
    exact cr_all hc pins s σ H _ us Q I r ⟨a1, bs, rfl, SqL.of h1, after.flat hk sm ok (.bl _)⟩
  | _ => exact hw.elim
theorem call_anyW (hc : X.calm = true) : CallR X (.builtin "any") (rC1 X.K (w1 .any)) := by
  intro pins s σ H xs us Q I r h
  obtain ⟨x, rfl, L, B, Hs, Hi, p, k, sm, ok, hs, hp, ⟨a, ea, hw⟩, after⟩ := h
  unfold b1 at hw
  cases a with
  | list ys =>
    obtain ⟨bs, e, hk⟩ := hw
    obtain ⟨a1, vs, rfl, h1, d1⟩ := hp.list sm ea
    obtain rfl := bools_of d1 e
    exact cr_any hc pins s σ H _ us Q I r ⟨a1, bs, rfl, SqL.of h1, after.flat hk sm ok (.bl _)⟩
  | _ => exact hw.elim
theorem call_maxW (hc : X.calm = true) : CallR X (.builtin "max") (rC2 X.K (w3 .max)) := by
  intro pins s σ H xs us Q I r h
  obtain ⟨x, y, L, B, Hs, Hi, p, q, k, rfl, sm, ok, hs, hp, hq, ⟨i, j, e1, e2, hw⟩, after⟩ := h
  subst e1 e2
  obtain rfl := hp.int rfl
  obtain rfl := hq.int rfl
  exact call_max2 hc pins s σ H _ us Q I r ⟨i, j, rfl, after.flat hw sm ok (.int _)⟩
theorem call_max3W (hc : X.calm = true) : CallR X (.builtin "max") (rC3 X.K max3W) := by
  intro pins s σ H xs us Q I r h
  obtain ⟨x, y, z, L, B, Hs, Hi, p, q, t, k, rfl, sm, ok, hs, hp, hq, ht, ⟨i, j, m, e1, e2, e3, hw⟩, after⟩ := h
  subst e1 e2 e3
  obtain rfl := hp.int rfl
  obtain rfl := hq.int rfl
  obtain rfl := ht.int rfl
  refine call_max3Nu hc pins s σ H _ us Q I r ⟨.int i, .int j, .int m, .int (b3 .max (b3 .max i j) m), rfl, ?_, after.flat hw sm ok (.int _)⟩
  have two : ∀ i j : Int, nuMax2 (.int i) (.int j) = some (.int (b3 .max i j)) := fun i j => by
    show some (if decide (i < j) = true then V.int j else V.int i) = some (V.int (if j > i then j else i))
    by_cases h : i < j
    · rw [if_pos (by simpa using h), if_pos h]
    · rw [if_neg (by simpa using h), if_neg h]
  show (nuMax2 (.int i) (.int j)).bind (fun m' => nuMax2 m' (.int m)) = _
  rw [two]
  exact two _ _
theorem call_minW (hc : X.calm = true) : CallR X (.builtin "min") (rC2 X.K (w3 .min)) := by
  intro pins s σ H xs us Q I r h
  obtain ⟨x, y, L, B, Hs, Hi, p, q, k, rfl, sm, ok, hs, hp, hq, ⟨i, j, e1, e2, hw⟩, after⟩ := h
  subst e1 e2
  obtain rfl := hp.int rfl
  obtain rfl := hq.int rfl
  exact call_min2 hc pins s σ H _ us Q I r ⟨i, j, rfl, after.flat hw sm ok (.int _)⟩
theorem call_gcdW : CallR X (.builtin "math.gcd") (rC2 X.K (w3 .gcd)) := by
  intro pins s σ H xs us Q I r h
  obtain ⟨x, y, L, B, Hs, Hi, p, q, k, rfl, sm, ok, hs, hp, hq, ⟨i, j, e1, e2, hw⟩, after⟩ := h
  subst e1 e2
  obtain rfl := hp.int rfl
  obtain rfl := hq.int rfl
  exact cr_gcd pins s σ H _ us Q I r ⟨i, j, rfl, after.flat hw sm ok (.int _)⟩
/-! ### repr -/
theorem call_reprW (hg : X.A.guards = some []) (hu : X.A.units + 128 < cLine) : CallR X (.builtin "repr") (rC1 X.K (w1 .repr)) := by
  intro pins s σ H xs us Q I r h
  obtain ⟨x, rfl, L, B, Hs, Hi, p, k, sm, ok, hs, hp, ⟨a, ea, hw⟩, after⟩ := h
  obtain ⟨⟨h1, h2, h3, h4⟩, hk⟩ := hw
  obtain ⟨u, rfl, rx⟩ := vals1 r
  have fin : ∀ (t : Tok) (s' : Shared), Inv X pins σ H s' → EP X pins σ Q (.str a.shown t) s' := fun t s' I' => ⟨.str a.shown, H, I', ⟨t, rfl⟩, after.flat hk sm ok (.str _)⟩
  obtain ⟨as, rd⟩ := Dp.reads I a x u (Dq.dp _ _ (hp.dq sm ea)) rx
  have seq : ∀ b, u = .ref b → wpAny (model X.prog X.w) X.A (call (.builtin "repr") [u]) (EP X pins σ Q) X.xe s := fun b e => by
    subst e
    exact repr_of_reads' rd h1 (fun z => by rw [h2] at z; cases z) hg (by omega) (fun _ _ e => e) (fun h' t tk hk' => fin t _ (I.kept hk')) h4
  cases a with
  | none =>
    obtain ⟨rfl, d⟩ := hp.flat ea (fun _ z => nomatch z)
    cases d
    obtain rfl : u = Value.none := rx
    exact PySem.P.repr_of_none (by have := fin s.toks { s with toks := s.toks + 1 } (I.tok _); simpa only [PyData.shown] using this)
  | bool b =>
    obtain rfl := hp.bool ea
    obtain rfl : u = Value.bool b := rx
    exact PySem.P.repr_of_bool (by have := fin s.toks { s with toks := s.toks + 1 } (I.tok _); simpa only [PyData.shown] using this)
  | int i =>
    obtain rfl := hp.int ea
    obtain ⟨t, rfl⟩ := rx
    exact PySem.P.repr_of_int (by simpa [PyData.showable] using h1) (by have := fin s.toks { s with toks := s.toks + 1 } (I.tok _); simpa only [PyData.shown] using this)
  | str z =>
    obtain rfl := hp.str ea
    obtain ⟨t, rfl⟩ := rx
    exact PySem.P.repr_of_str (by have := fin s.toks { s with toks := s.toks + 1 } (I.tok _); simpa only [PyData.shown] using this) (by simpa only [PyData.shown] using h4)
  | list ys =>
    obtain ⟨a1, vs, rfl, _, _⟩ := hp.list sm ea
    exact seq a1 rx
  | tuple ys =>
    obtain ⟨a1, vs, rfl, _, _, _⟩ := hp.tuple sm ea
    exact seq a1 rx
  | dict ys => cases h2
/-! ### isinstance -/
def tyOf : PyData → String
  | .none => "NoneType"
  | .bool _ => "bool"
  | .int _ => "int"
  | .str _ => "str"
  | .list _ => "list"
  | .tuple _ => "tuple"
  | .dict _ => "dict"
theorem Dq.ty {K : PySem.W.Frag} {H : Hp} {v : V} {d : PyData} (h : Dq K H v d) : TyX K H v (.type (tyOf d)) := by
  cases h with
  | non => exact .base .non
  | bl b => exact .base (.bl b)
  | int i => exact .base (.int i)
  | str x => exact .base (.str x)
  | lst h1 h2 => exact .base (.lst h1)
  | tup h1 h2 =>
    rcases h1 with (h1 | ⟨o, h1⟩) | ⟨o, its, n, h1, hc, _⟩
    · exact .base (.tup h1)
    · exact .fTuple h1
    · exact .kTuple h1 hc
def rIs (K : PySem.W.Frag) (T : String) (w : AV → KA → Prop) : List V → Hp → VK → Prop := fun xs H Q => ∃ x, xs = [x, .ty T] ∧ rW1 K w x H Q
theorem call_isW {T : String} {o : O1} (ho : ∀ d k, b1 o d k → ∃ b, kitB (tyOf d) T = some b ∧ k (.d (.bool b))) : CallR X (.builtin "isinstance") (rIs X.K T (w1 o)) := by
  intro pins s σ H xs us Q I r h
  obtain ⟨x, rfl, L, B, Hs, Hi, p, k, sm, ok, hs, hp, ⟨a, ea, hw⟩, after⟩ := h
  obtain ⟨b, hb, hk⟩ := ho a k hw
  exact call_isi pins s σ H _ us Q I r ⟨x, .ty T, _, .type T, b, rfl, .ty T, (hp.dq sm ea).ty, kit_ty hb, after.flat hk sm ok (.bl _)⟩
theorem is_int : ∀ d k, b1 .isInt d k → ∃ b, kitB (tyOf d) "int" = some b ∧ k (.d (.bool b)) := by
  intro d k h
  cases d with
  | none => exact ⟨false, (by decide +kernel : kitB "NoneType" "int" = some false), h⟩
  | bool _ => exact ⟨true, (by decide +kernel : kitB "bool" "int" = some true), h⟩
  | int _ => exact ⟨true, (by decide +kernel : kitB "int" "int" = some true), h⟩
  | str _ => exact ⟨false, (by decide +kernel : kitB "str" "int" = some false), h⟩
  | list _ => exact ⟨false, (by decide +kernel : kitB "list" "int" = some false), h⟩
  | tuple _ => exact ⟨false, (by decide +kernel : kitB "tuple" "int" = some false), h⟩
  | dict _ => exact h.elim
theorem is_bool : ∀ d k, b1 .isBool d k → ∃ b, kitB (tyOf d) "bool" = some b ∧ k (.d (.bool b)) := by
  intro d k h
  cases d with
  | none => exact ⟨false, (by decide +kernel : kitB "NoneType" "bool" = some false), h⟩
  | bool _ => exact ⟨true, (by decide +kernel : kitB "bool" "bool" = some true), h⟩
  | int _ => exact ⟨false, (by decide +kernel : kitB "int" "bool" = some false), h⟩
  | str _ => exact ⟨false, (by decide +kernel : kitB "str" "bool" = some false), h⟩
  | list _ => exact ⟨false, (by decide +kernel : kitB "list" "bool" = some false), h⟩
  | tuple _ => exact ⟨false, (by decide +kernel : kitB "tuple" "bool" = some false), h⟩
  | dict _ => exact h.elim
theorem is_tuple : ∀ d k, b1 .isTuple d k → ∃ b, kitB (tyOf d) "tuple" = some b ∧ k (.d (.bool b)) := by
  intro d k h
  cases d with
  | none => exact ⟨false, (by decide +kernel : kitB "NoneType" "tuple" = some false), h⟩
  | bool _ => exact ⟨false, (by decide +kernel : kitB "bool" "tuple" = some false), h⟩
  | int _ => exact ⟨false, (by decide +kernel : kitB "int" "tuple" = some false), h⟩
  | str _ => exact ⟨false, (by decide +kernel : kitB "str" "tuple" = some false), h⟩
  | list _ => exact ⟨false, (by decide +kernel : kitB "list" "tuple" = some false), h⟩
  | tuple _ => exact ⟨true, (by decide +kernel : kitB "tuple" "tuple" = some true), h⟩
  | dict _ => exact h.elim
theorem is_str : ∀ d k, b1 .isStr d k → ∃ b, kitB (tyOf d) "str" = some b ∧ k (.d (.bool b)) := by
  intro d k h
  cases d with
  | none => exact ⟨false, (by decide +kernel : kitB "NoneType" "str" = some false), h⟩
  | bool _ => exact ⟨false, (by decide +kernel : kitB "bool" "str" = some false), h⟩
  | int _ => exact ⟨false, (by decide +kernel : kitB "int" "str" = some false), h⟩
  | str _ => exact ⟨true, (by decide +kernel : kitB "str" "str" = some true), h⟩
  | list _ => exact ⟨false, (by decide +kernel : kitB "list" "str" = some false), h⟩
  | tuple _ => exact ⟨false, (by decide +kernel : kitB "tuple" "str" = some false), h⟩
  | dict _ => exact h.elim
end
end Un
end
section
/-! Un: a def's promise where no repr runs around (guards), the calls of such defs. -/
namespace Un
open PySem PySem.Spec PyProof.Rows L2

structure RoomG (k : Nat) (A : Around) : Prop where
  r : Room k A
  g : A.guards = some []
theorem RoomG.mono {j k : Nat} {A : Around} (q : RoomG k A) (h : j ≤ k) : RoomG j A := ⟨q.r.mono h, q.g⟩
theorem RoomG.deeper {k : Nat} {A : Around} (q : RoomG (k + 1) A) (env : Env) : RoomG k (A.deeper env) := ⟨q.r.deeper env, q.g⟩

section
variable (P : Program) (w : World) (K : PySem.W.Frag) (mg : Str → Option Value) (base : Heap)
structure FnG (k : Nat) (f : Addr) (fd : FuncData) (ps : List Str) (sp : Sp) : Prop where
  len : ∀ vs H Q E, sp vs H Q E → vs.length = ps.length
  run : ∀ (A : Around) (outer : List Env) (s : Shared) (H : Hp) (args : Args) (us : List Value) (vs : List V) (Q : VK) (E : XK),
    RoomG k A → Env0 P w K mg base A outer s H → BindsTo s fd args (ps.zip us) → Vals vs us → sp vs H Q E →
      codeAny (model P w) A (.call (.ref f) args) (CR (L2.CX P w) outer P w H s Q E) s
end
theorem FnG.mono {P : Program} {w : World} {K : PySem.W.Frag} {mg : Str → Option Value} {base : Heap} {j k : Nat} {f : Addr} {fd : FuncData} {ps : List Str} {sp : Sp} (F : FnG P w K mg base j f fd ps sp) (h : j ≤ k) : FnG P w K mg base k f fd ps sp :=
  ⟨F.len, fun A outer s H args us vs Q E hr => F.run A outer s H args us vs Q E (hr.mono h)⟩
theorem FnG.imp {P : Program} {w : World} {K : PySem.W.Frag} {mg : Str → Option Value} {base : Heap} {k : Nat} {f : Addr} {fd : FuncData} {ps : List Str} {sp sp' : Sp} (F : FnG P w K mg base k f fd ps sp)
    (h : ∀ vs H Q E, sp' vs H Q E → sp vs H Q E) : FnG P w K mg base k f fd ps sp' :=
  ⟨fun vs H Q E q => F.len vs H Q E (h _ _ _ _ q), fun A outer s H args us vs Q E hr he hb hv hs => F.run A outer s H args us vs Q E hr he hb hv (h _ _ _ _ hs)⟩

section
variable {X : Cx} {k : Nat} {f : Addr} {fd : FuncData} {ps ks : List Str} {sp : Sp} {W : WX} {x : Str} {p pos : Pos} {e : Expr} {es : List Expr} {kws : List Keyword} {t tk : TA}
/-- the callee runs; what it raises is wished for at the slots as they stand -/
theorem run_fnG {pins : List (Addr × Obj)} {σ : L2.St} {H : Hp} {s : Shared} {Q : VK} {us : List Value} {vs : List V} {args : Args} (F : FnG X.prog X.w X.K X.mg X.base k f fd ps sp) (hr : RoomG k X.A) (htk : Takes X W)
    (hb : BindsTo s fd args (ps.zip us)) (I : Inv X pins σ H s) (r : Vals vs us) (h : sp vs H Q (fun cls d H' => W cls d σ H')) :
    codeAny (model X.prog X.w) X.A (.call (.ref f) args) (fun q s' => match q with
      | .ok (.ret u) => EP X pins σ Q u s'
      | .ok _ => False
      | .error e => X.xe e s') s := by
  refine codeAny_mono (F.run X.A X.stack s H args us vs Q _ hr I.env0 hb r h) fun q s' hq => ?_
  cases q with
  | error e => exact htk e s' (XE.of_call I (fun _ _ _ z => z) hq)
  | ok fl =>
    cases fl with
    | ret u => exact I.after hq
    | next => exact False.elim hq
    | brk => exact False.elim hq
    | cont => exact False.elim hq
theorem call_fnG {pins : List (Addr × Obj)} {σ : L2.St} {H : Hp} {s : Shared} {Q : VK} {us ws zs : List Value} {vs : List V} (F : FnG X.prog X.w X.K X.mg X.base k f fd ps sp) (hr : RoomG k X.A) (htk : Takes X W)
    (hb : BindsTo s fd ⟨us, ks.zip zs⟩ (ps.zip ws)) (I : Inv X pins σ H s) (r : Vals vs ws) (h : sp vs H Q (fun cls d H' => W cls d σ H')) :
    wpAny (model X.prog X.w) X.A (call (.ref f) us (ks.zip zs)) (EP X pins σ Q) X.xe s := by
  refine wpAny_call (codeAny_mono (run_fnG F hr htk hb I r h) fun q s' hq => ?_)
  cases q with
  | error e => exact hq
  | ok fl =>
    cases fl with
    | ret u => exact hq
    | next => exact False.elim hq
    | brk => exact False.elim hq
    | cont => exact False.elim hq
/-- a call's reading: positional values, keywords' values, put in the parameters' order -/
def tCallG (sp : Sp) (n m : Nat) (gV : List V → List V → List V) (W : WX) (t tk : TA) : TE := fun σ H Q => t σ H fun vs H1 => tk σ H1 fun zs H2 => vs.length = n ∧ zs.length = m ∧ sp (gV vs zs) H2 Q (fun cls d H' => W cls d σ H')
/-- how n values and the keywords ks bind -/
structure KBg (K : PySem.W.Frag) (fd : FuncData) (n : Nat) (ps ks : List Str) (g : List Value → List Value → List Value) (gV : List V → List V → List V) : Prop where
  to : ∀ (s : Shared) (us ws : List Value), K.In s.heap → us.length = n → ws.length = ks.length → BindsTo s fd ⟨us, ks.zip ws⟩ (ps.zip (g us ws))
  rel : ∀ {vs : List V} {us : List Value} {zs : List V} {ws : List Value}, Vals vs us → Vals zs ws → Vals (gV vs zs) (g us ws)
variable {g : List Value → List Value → List Value} {gV : List V → List V → List V} {n : Nat}
/-- the names and the worths of keywords -/
theorem kw_all (pos : Pos) (env : Env) : ∀ kws : List Keyword, (kws.all fun q => q.arg.isSome) = true → (backToKw pos (keywordEach kws env)).all (·.1.isSome) = true ∧ (backToKw pos (keywordEach kws env)).any (·.1.isNone) = false ∧
    (backToKw pos (keywordEach kws env)).filterMap (·.1) = kws.filterMap (·.arg) ∧ (backToKw pos (keywordEach kws env)).length = kws.length
  | [], _ => ⟨rfl, rfl, rfl, rfl⟩
  | ⟨nm, v, kp⟩ :: r, h => by
    rw [List.all_cons, Bool.and_eq_true] at h
    obtain ⟨h1, h2, h3, h4⟩ := kw_all pos env r h.2
    have e : backToKw pos (keywordEach (⟨nm, v, kp⟩ :: r) env) = (nm, do let v ← eval v env; standAt pos; pure v) :: backToKw pos (keywordEach r env) := rfl
    rw [e]
    have hn : nm.isSome = true := h.1
    refine ⟨?_, ?_, ?_, ?_⟩
    · rw [List.all_cons, h1, hn] <;> rfl
    · rw [List.any_cons, h2]
      cases nm with
      | none => cases hn
      | some z => rfl
    · cases nm with
      | none => cases hn
      | some z =>
        show z :: (backToKw pos (keywordEach r env)).filterMap (·.1) = z :: r.filterMap (·.arg)
        rw [h3]
    · rw [List.length_cons, List.length_cons, h4]
theorem call_kG {pins : List (Addr × Obj)} {σ : L2.St} {H : Hp} {s : Shared} {Q : VK} {us ws : List Value} {vs zs : List V} (F : FnG X.prog X.w X.K X.mg X.base k f fd ps sp) (hr : RoomG k X.A) (hb : KBg X.K fd n ps ks g gV) (htk : Takes X W)
    (I : Inv X pins σ H s) (r : Vals vs us) (rz : Vals zs ws) (hn : vs.length = n) (hl : zs.length = ks.length) (h : sp (gV vs zs) H Q (fun cls d H' => W cls d σ H')) : wpAny (model X.prog X.w) X.A (call (.ref f) us (ks.zip ws)) (EP X pins σ Q) X.xe s := by
  have r2 := hb.rel r rz
  exact call_fnG F hr htk (hb.to s us ws I.kIn (by rw [← r.length]; exact hn) (by rw [← rz.length]; exact hl)) I r2 h
/-- f(k = v, ..) -/
theorem pe_callG0 (F : FnG X.prog X.w X.K X.mg X.base k f fd ps sp) (hr : RoomG k X.A) (hg : Gl X x) (hm : X.mg x = some (.ref f)) (hk : PySem.W.keepIn X.K (.ref f) = true) (hb : KBg X.K fd n ps (kws.filterMap (·.arg)) g gV) (htk : Takes X W)
    (hkw : PK X kws tk) (hks : (kws.all fun q => q.arg.isSome) = true) (hdb : (x == ("__debug__" : Str)) = false) :
    PE X (.Call (.Name x p) [] kws pos) (tCallG sp n (kws.filterMap (·.arg)).length gV W tNil tk) := by
  obtain ⟨k1, k2, k3, k4⟩ := kw_all pos X.env kws hks
  refine ⟨fun pins s σ H Q I h => ?_⟩
  refine wpAny_Call_Name_kw (ld_glob I hg hm ?_ hdb)
  refine PySem.W.callWith_KW0 (h₀ := X.base) I.ok.mod.kin hk k1 (thn (hkw.run pos pins s σ H _ I h) fun ws s2 ⟨zs, H2, I2, rz, hn, hl, q2⟩ => ⟨I2.kIn, ?_⟩) (by rw [k2] <;> rfl)
  rw [k3]
  exact call_kG F hr hb htk I2 .nil rz hn hl q2
/-- f(e, .., k = v, ..) -/
theorem pe_callG (F : FnG X.prog X.w X.K X.mg X.base k f fd ps sp) (hr : RoomG k X.A) (hg : Gl X x) (hm : X.mg x = some (.ref f)) (hk : PySem.W.keepIn X.K (.ref f) = true) (hb : KBg X.K fd n ps (kws.filterMap (·.arg)) g gV) (htk : Takes X W)
    (ha : PA X (e :: es) t) (hkw : PK X kws tk) (hks : (kws.all fun q => q.arg.isSome) = true) (hdb : (x == ("__debug__" : Str)) = false)
    (hst : starEach (e :: es) X.env = (false, eval e X.env) :: starEach es X.env) (hpl : (backTo pos (starEach es X.env)).any (·.1) = false) :
    PE X (.Call (.Name x p) (e :: es) kws pos) (tCallG sp n (kws.filterMap (·.arg)).length gV W t tk) := by
  obtain ⟨k1, k2, k3, k4⟩ := kw_all pos X.env kws hks
  refine ⟨fun pins s σ H Q I h => ?_⟩
  refine wpAny_Call_Name_kw (ld_glob I hg hm ?_ hdb)
  refine PySem.W.callWith_KW (h₀ := X.base) I.ok.mod.kin hk k1 (thn (ha.run pos pins s σ H _ I h) fun us s1 ⟨vs, H1, I1, r, q⟩ => ?_) (by
    rw [k2, Bool.or_false, hst]
    show (false || (backTo pos (starEach es X.env)).any (·.1)) = false
    rw [hpl] <;> rfl) hst
  refine thn (hkw.run pos pins s1 σ H1 _ I1 q) fun ws s2 ⟨zs, H2, I2, rz, hn, hl, q2⟩ => ⟨I2.kIn, ?_⟩
  rw [k3]
  exact call_kG F hr hb htk I2 r rz hn hl q2
/-- a def of the text, by its body -/
theorem fn_ofG {P : Program} {w : World} {K : PySem.W.Frag} {mg : Str → Option Value} {base : Heap} {k : Nat} {f : Addr} {x qual : Str} {params : Arguments} {body : List Stmt} {scope : Scope} {dvs : List V} {kws : List (Str × V)} {fd : FuncData} {N ps : List Str} {sp : Sp}
    (F : FunD K x qual params body scope dvs kws f fd) (S : FnScope N ps scope) (len : ∀ vs H Q E, sp vs H Q E → vs.length = ps.length)
    (hbody : ∀ (cdv : Value) (A : Around) (outer : List Env) (s : Shared) (H : Hp) (vs : List V) (Q : VK) (E : XK), RoomG k (A.deeper (envOfC qual scope s.heap.objs.size f cdv)) → sp vs H Q E →
      ∃ t, PSs (cxOf (L2.CX P w) P w K mg base N qual scope f cdv A outer s H E) body t ∧ t { nx := fun _ H' => Q .non H', rt := Q } (start N vs) H) : FnG P w K mg base (k + 1) f fd ps sp := by
  obtain ⟨oc, od, dV, kV, doc, pm, an, cdv, ct, osl, rfl, lk, hcd, _, _⟩ := F.ex
  refine ⟨len, fun A outer s H args us vs Q E hr e0 hb rv hsp => ?_⟩
  have hl : vs.length = ps.length := len _ _ _ _ hsp
  have up : ∀ b o, base.get? b = some o → s.heap.get? b = some o := fun b o e => (e0.bs b o e).1
  have KX : K.In s.heap := e0.mod.kin.keeps up
  have hcell : ∀ y ∈ ps.zip us, scope.names.lookup y.1 = some .local ∨ (scope.names.lookup y.1 = some .cell ∧ ((cellsFrom (s.heap.objs.size + 1) scope.names []).lookup y.1).isSome = true) := by
    rintro ⟨nm, v⟩ hy
    cases S.par nm (List.of_mem_zip hy).1 with
    | inl q => exact .inl q
    | inr q => exact .inr ⟨q, PySem.W.cellsFrom_some _ _ _ (.inl q)⟩
  refine codeAny_call_function hr.r.depth (KX _ _ lk) rfl S.co S.gen rfl (PySem.W.codeRec_of KX hcd) (hb _ _ _ _ (wpAny_newFunctionEnv_cells S.kind hcell ?_))
  intro env he s1 x
  subst he
  obtain ⟨t, ht, hq⟩ := hbody cdv A outer s H vs Q E (hr.deeper _) hsp
  have I0 := inv_start (CX := L2.CX P w) (E := E) S hr.r.hd e0 hl rv x
  have fin : ∀ {σ' : L2.St} {H' : Hp} {v : V} {u : Value} {s' : Shared}, Inv (cxOf (L2.CX P w) P w K mg base N qual scope f cdv A outer s H E) [] σ' H' s' → RelV v u → Q v H' → CE outer P w H s Q u s' := by
    intro σ' H' v u s' J r q
    exact ⟨v, H', J.os, J.bare, J.base, J.hok, r, q⟩
  refine ⟨(e0.mod.nolimit.keeps up).keeps x.toInCall.keep, codeAny_func (wpAny_mono (ht.run [] s1 _ H _ I0 hq) ?_ fun _ _ z => z)⟩
  intro fl s' hs
  cases fl with
  | next =>
    obtain ⟨σ', H', J, q⟩ := hs
    exact fin (v := V.non) (u := Value.none) J rfl q
  | ret u =>
    obtain ⟨v, σ', H', J, r, q⟩ := hs
    exact fin J r q
  | brk =>
    obtain ⟨_, _, _, q⟩ := hs
    exact q.elim
  | cont =>
    obtain ⟨_, _, _, q⟩ := hs
    exact q.elim
end
end Un
end
section
/-! Un: the readings: what a phrase of the pure language wants of the abstract state. -/
namespace Un
open PySem PySem.Spec L2

/-- what a law fixes once: the kit, which source, how errors lie, what is wanted of an error -/
structure Lay where
  K : PySem.W.Frag
  κ : Loc → Prop
  XR : Nat → List PyData → Value → Option Addr → Hp → Hp → Prop
  W : WX
/-- no error is wanted -/
def Lay.mute (l : Lay) : Lay := { l with W := fun _ _ _ _ => False }
/-- the state an expression starts from -/
structure Stt (l : Lay) (x : KX) (L : Loc) (Hi0 B Hi : Hp) (σ : L2.St) (H : Hp) (ρ : List SV) : Prop where
  k : l.κ L
  r : Rel l.K L Hi0 B Hi σ H ρ
  e : ∀ c fs cls d Hi' H', x c fs → Grow L Hi H Hi' H' → L.ok H' → l.XR c fs cls d Hi' H' → l.W cls d σ H'
section
variable {l : Lay} {x : KX} {L : Loc} {Hi0 B Hi H Hi' H' Hs : Hp} {σ : L2.St} {ρ : List SV}
theorem Stt.step (s : Stt l x L Hi0 B Hi σ H ρ) (g : Grow L Hi H Hi' H') (ok : L.ok H') : Stt l x L Hi0 B Hi' σ H' ρ :=
  ⟨s.k, s.r.step g ok, fun c fs cls d Hi2 H2 h1 h2 h3 h4 => s.e c fs cls d Hi2 H2 h1 (g.trans h2) h3 h4⟩
theorem Stt.bnf (s : Stt l x L Hi0 B Hi σ H ρ) : ∀ p, B p = none → ¬ L.foot p := Loc.nofoot s.r.srcB
theorem Stt.hnf (s : Stt l x L Hi0 B Hi σ H ρ) : ∀ p, H p = none → ¬ L.foot p := Loc.nofoot s.r.src
theorem Stt.hb (s : Stt l x L Hi0 B Hi σ H ρ) : ∀ p, H p = none → B p = none := s.r.g.dom
end

def tV (l : Lay) (x : KX) (f : List SV → KA → Prop) : TE := fun σ H Q => ∃ L Hi0 B Hi ρ k, Stt l x L Hi0 B Hi σ H ρ ∧ f ρ k ∧ After l.K L B H Hi H k Q
def AfterL (K : PySem.W.Frag) (L : Loc) (B Hs Hi H : Hp) (k : List AV → Prop) (Q : List V → Hp → Prop) : Prop :=
  ∀ as, k as → ∀ vs Hi' H', Grow L Hi H Hi' H' → L.ok H' → LsOk K L B Hs Hi' H' vs as → Q vs H'
def tL (l : Lay) (x : KX) (f : List SV → (List AV → Prop) → Prop) : TA := fun σ H Q => ∃ L Hi0 B Hi ρ k, Stt l x L Hi0 B Hi σ H ρ ∧ f ρ k ∧ AfterL l.K L B H Hi H k Q
/-- behind a pure answer -/
def AfterP {α : Type} (L : Loc) (Hi H : Hp) (k : α → Prop) (Q : α → Hp → Prop) : Prop := ∀ a, k a → ∀ Hi' H', Grow L Hi H Hi' H' → L.ok H' → Q a H'
def tP {α : Type} (l : Lay) (x : KX) (f : List SV → (α → Prop) → Prop) : L2.St → Hp → (α → Hp → Prop) → Prop := fun σ H Q => ∃ L Hi0 B Hi ρ k, Stt l x L Hi0 B Hi σ H ρ ∧ f ρ k ∧ AfterP L Hi H k Q
abbrev tT (l : Lay) (x : KX) (f : List SV → (Bool → Prop) → Prop) : TT := tP l x f
abbrev tO (l : Lay) (x : KX) (f : List SV → (Option Int → Prop) → Prop) : TO := tP l x f
/-- an iterator that gives these, whatever grows meanwhile -/
structure ItOk (K : PySem.W.Frag) (L : Loc) (Hi1 H1 : Hp) (J : It) (xs : List PyData) : Prop where
  go : ∀ (i : Nat) Hi H, Same Hi1 Hi → Same Hi H → (∀ a, H a = none → H1 a = none) → L.ok H → i < xs.length → J.go i H
  stop : ∀ (i : Nat) Hi H, Same Hi1 Hi → Same Hi H → (∀ a, H a = none → H1 a = none) → L.ok H → i = xs.length → J.stop i H
  yld : ∀ (i : Nat) Hi H x v H', Same Hi1 Hi → Same Hi H → (∀ a, H a = none → H1 a = none) → L.ok H → xs[i]? = some x → J.yld i H v H' → ∃ Hi', Grow L Hi H Hi' H' ∧ L.ok H' ∧ Dq K Hi' v x
def AfterI (K : PySem.W.Frag) (L : Loc) (Hi H : Hp) (k : List PyData → Prop) (R : It → Hp → Prop) : Prop := ∀ xs, k xs → ∀ J Hi' H', Grow L Hi H Hi' H' → L.ok H' → ItOk K L Hi' H' J xs → R J H'
def tI (l : Lay) (x : KX) (f : List SV → (List PyData → Prop) → Prop) : TI := fun σ H R => ∃ L Hi0 B Hi ρ k, Stt l x L Hi0 B Hi σ H ρ ∧ f ρ k ∧ AfterI l.K L Hi H k R

section
variable {l : Lay} {x : KX} {K : PySem.W.Frag} {L : Loc} {B Hs Hi H Hi' H' Hi2 H2 : Hp} {ρ : List SV} {k : KA} {Q : VK}
/-- from a later state, started earlier -/
theorem After.later (h : After K L B Hs Hi H k Q) (g : Grow L Hi H Hi' H') {Hs' : Hp} (e : ∀ p, Hs' p = none → Hs p = none) : After K L B Hs' Hi' H' k Q := fun av hk v Hi2 H2 g2 ok2 ha => h av hk v Hi2 H2 (g.trans g2) ok2 (ha.early e)
theorem tP.mono {α : Type} {f : List SV → (α → Prop) → Prop} {σ : L2.St} {Q Q' : α → Hp → Prop} (h : tP l x f σ H Q) (i : ∀ a H', Q a H' → Q' a H') : tP l x f σ H Q' := by
  obtain ⟨L, Hi0, B, Hi, ρ, k, s, hf, ha⟩ := h
  exact ⟨L, Hi0, B, Hi, ρ, k, s, hf, fun a hk Hi' H' g ok => i _ _ (ha a hk Hi' H' g ok)⟩
theorem tV.mono {f : List SV → KA → Prop} {σ : L2.St} {Q Q' : VK} (h : tV l x f σ H Q) (i : ∀ a H', Q a H' → Q' a H') : tV l x f σ H Q' := by
  obtain ⟨L, Hi0, B, Hi, ρ, k, s, hf, ha⟩ := h
  exact ⟨L, Hi0, B, Hi, ρ, k, s, hf, fun a hk v Hi' H' g ok h => i _ _ (ha a hk v Hi' H' g ok h)⟩

/-- two worths, then an operator -/
theorem rd_op {o : O2} {f g : List SV → KA → Prop} {σ : L2.St} (h : tV l x (fun ρ k => f ρ fun p => g ρ fun q => w2 o p q k) σ H Q) : tOp (rW l.K o) (tV l x f) (tV l x g) σ H Q := by
  obtain ⟨L, Hi0, B, Hi, ρ, k, s, hf, ha⟩ := h
  refine ⟨L, Hi0, B, Hi, ρ, _, s, hf, fun p hp v Hi1 H1 g1 ok1 hv => ?_⟩
  refine ⟨L, Hi0, B, Hi1, ρ, _, s.step g1 ok1, hp, fun q hq u Hi2 H2 g2 ok2 hu => ?_⟩
  refine ⟨L, B, H, Hi2, p, q, k, g2.sub, ok2, fun a e => g1.dom a (g2.dom a e), hv.mono g2 s.hnf s.bnf, hu.early g1.dom, hq, ?_⟩
  exact ha.later (g1.trans g2) (fun _ e => e)
/-- the same as a test; only an answer that is a bool -/
theorem w2_bool {o : O2} {op : CmpOp} (ho : isCmp o = some op) {p q : AV} {k : KA} (h : w2 o p q k) : w2 o p q fun a => (∃ b, a = .d (.bool b)) ∧ k a := by
  obtain ⟨a, b, ea, eb, h⟩ := h
  refine ⟨a, b, ea, eb, ?_⟩
  cases o with
  | eq => unfold b2 at h ⊢; cases a <;> cases b <;> first | exact ⟨h.1, h.2.1, ⟨_, rfl⟩, h.2.2⟩ | exact ⟨⟨_, rfl⟩, h⟩
  | ne => unfold b2 at h ⊢; cases a <;> cases b <;> first | exact ⟨h.1, h.2.1, ⟨_, rfl⟩, h.2.2⟩ | exact ⟨⟨_, rfl⟩, h⟩
  | lt => unfold b2 at h ⊢; cases a <;> cases b <;> first | exact ⟨⟨_, rfl⟩, h⟩ | exact h.elim
  | le => unfold b2 at h ⊢; cases a <;> cases b <;> first | exact ⟨⟨_, rfl⟩, h⟩ | exact h.elim
  | gt => unfold b2 at h ⊢; cases a <;> cases b <;> first | exact ⟨⟨_, rfl⟩, h⟩ | exact h.elim
  | ge => unfold b2 at h ⊢; cases a <;> cases b <;> first | exact ⟨⟨_, rfl⟩, h⟩ | exact h.elim
  | inn => unfold b2 at h ⊢; cases b <;> first | exact h.elim | (exact h.imp (fun ⟨z, zs, e1, e2, e3⟩ => ⟨z, zs, e1, e2, ⟨_, rfl⟩, e3⟩) fun ⟨z, zs, e1, e2, e3⟩ => ⟨z, zs, e1, e2, ⟨_, rfl⟩, e3⟩)
  | nin => unfold b2 at h ⊢; cases b <;> first | exact h.elim | (exact h.imp (fun ⟨z, zs, e1, e2, e3⟩ => ⟨z, zs, e1, e2, ⟨_, rfl⟩, e3⟩) fun ⟨z, zs, e1, e2, e3⟩ => ⟨z, zs, e1, e2, ⟨_, rfl⟩, e3⟩)
  | _ => cases ho
theorem rd_cmpT {o : O2} {op : CmpOp} (ho : isCmp o = some op) {f g : List SV → KA → Prop} {σ : L2.St} {Q : Bool → Hp → Prop} (h : tT l x (fun ρ k => f ρ fun p => g ρ fun q => w2 o p q fun a => truthW a k) σ H Q) :
    tTest (tOp (rW l.K o) (tV l x f) (tV l x g)) σ H Q := by
  obtain ⟨L, Hi0, B, Hi, ρ, k, s, hf, ha⟩ := h
  refine ⟨L, Hi0, B, Hi, ρ, _, s, hf, fun p hp v Hi1 H1 g1 ok1 hv => ?_⟩
  refine ⟨L, Hi0, B, Hi1, ρ, _, s.step g1 ok1, hp, fun q hq u Hi2 H2 g2 ok2 hu => ?_⟩
  refine ⟨L, B, H, Hi2, p, q, _, g2.sub, ok2, fun a e => g1.dom a (g2.dom a e), hv.mono g2 s.hnf s.bnf, hu.early g1.dom, w2_bool ho hq, ?_⟩
  rintro av ⟨⟨b, rfl⟩, hk⟩ w Hi3 H3 g3 ok3 hw
  have e : w = .bl b := hw.bool rfl
  refine ⟨b, e, ?_⟩
  obtain ⟨y, ey, hy⟩ := hk
  cases ey
  exact ha b hy Hi3 H3 ((g1.trans g2).trans g3) ok3
/-- one worth, then an operator -/
theorem rd_un {w : AV → KA → Prop} {f : List SV → KA → Prop} {σ : L2.St} (h : tV l x (fun ρ k => f ρ fun p => w p k) σ H Q) : tUn (rW1 l.K w) (tV l x f) σ H Q := by
  obtain ⟨L, Hi0, B, Hi, ρ, k, s, hf, ha⟩ := h
  refine ⟨L, Hi0, B, Hi, ρ, _, s, hf, fun p hp v Hi1 H1 g1 ok1 hv => ?_⟩
  exact ⟨L, B, H, Hi1, p, k, g1.sub, ok1, g1.dom, hv, hp, ha.later g1 (fun _ e => e)⟩
/-- a truth -/
theorem AvOk.tru {v : V} {a : AV} {k : Bool → Prop} (h : AvOk K L B Hs Hi H v a) (sm : Same Hi H) (hw : truthW a k) : ∃ b, TruV K v H b ∧ k b := by
  obtain ⟨d, e, hw⟩ := hw
  have hl : ∀ {vs : List V} {xs : List PyData}, DqAll K Hi vs xs → (!vs.isEmpty) = !xs.isEmpty := fun h => by
    cases h <;> rfl
  cases d with
  | none =>
    obtain ⟨rfl, q⟩ := h.flat e (fun _ z => nomatch z)
    cases q
    exact ⟨false, rfl, hw⟩
  | bool b => obtain rfl := h.bool e; exact ⟨b, rfl, hw⟩
  | int i => obtain rfl := h.int e; exact ⟨_, rfl, hw⟩
  | str z =>
    obtain rfl := h.str e
    have e2 : ((z.length : Int) != 0) = (z.length != 0) := by cases z.length <;> rfl
    exact ⟨_, ⟨hw.1, rfl⟩, by rw [e2]; exact hw.2⟩
  | list xs =>
    obtain ⟨p, vs, rfl, h1, d1⟩ := h.list sm e
    exact ⟨!vs.isEmpty, .inl ⟨vs, SqL.of h1, rfl⟩, by rw [hl d1]; exact hw⟩
  | tuple xs =>
    obtain ⟨p, vs, rfl, h0, h1, d1⟩ := h.tuple sm e
    exact ⟨!vs.isEmpty, .inr (.inl ⟨vs, h1, rfl⟩), by rw [hl d1]; exact hw⟩
  | dict _ => exact hw.elim
end
end Un
end
section
/-! Un: when a text's phrase is a phrase of the pure language (a Bool, for the kernel to run). -/
namespace Un
open PySem PySem.Spec L2

mutual
def same : PyData → PyData → Bool
  | .none, .none => true
  | .bool a, .bool b => a == b
  | .int a, .int b => decide (a = b)
  | .str a, .str b => decide (a = b)
  | .list xs, .list ys => sames xs ys
  | .tuple xs, .tuple ys => sames xs ys
  | _, _ => false
def sames : List PyData → List PyData → Bool
  | [], [] => true
  | x :: xs, y :: ys => same x y && sames xs ys
  | _, _ => false
end
mutual
theorem same_eq : ∀ x y : PyData, same x y = true → x = y
  | .none, y, h => by cases y <;> first | rfl | (simp [same] at h)
  | .bool a, y, h => by cases y <;> simp [same] at h; rw [h]
  | .int a, y, h => by cases y <;> simp [same] at h; rw [h]
  | .str a, y, h => by cases y <;> simp [same] at h; rw [h]
  | .list xs, y, h => by cases y <;> simp [same] at h; rw [sames_eq xs _ h]
  | .tuple xs, y, h => by cases y <;> simp [same] at h; rw [sames_eq xs _ h]
  | .dict xs, y, h => by cases y <;> simp [same] at h
theorem sames_eq : ∀ x y : List PyData, sames x y = true → x = y
  | [], y, h => by cases y <;> simp [sames] at h; rfl
  | x :: xs, y, h => by
    cases y with
    | nil => simp [sames] at h
    | cons z zs =>
      simp [sames] at h
      rw [same_eq x z h.1, sames_eq xs zs h.2]
end

/-! ### views of a text's phrase -/
def asName : Expr → Option Str
  | .Name x _ => some x
  | _ => none
theorem asName_eq {e : Expr} {x : Str} (h : asName e = some x) : ∃ p, e = .Name x p := by
  unfold asName at h
  split at h
  · cases h; exact ⟨_, rfl⟩
  · cases h
def asDat : Expr → Option PyData
  | .Constant (.int i) _ _ => some (.int i)
  | .Constant (.bool b) _ _ => some (.bool b)
  | .Constant .none _ _ => some .none
  | .Constant (.str z) _ _ => some (.str z)
  | _ => none
def asBin : Expr → Option (Expr × Operator × Expr)
  | .BinOp a o b _ => some (a, o, b)
  | _ => none
theorem asBin_eq {e a b : Expr} {o : Operator} (h : asBin e = some (a, o, b)) : ∃ p, e = .BinOp a o b p := by
  unfold asBin at h
  split at h
  · cases h; exact ⟨_, rfl⟩
  · cases h
def asCmp : Expr → Option (Expr × CmpOp × Expr)
  | .Compare a [o] [b] _ => some (a, o, b)
  | _ => none
theorem asCmp_eq {e a b : Expr} {o : CmpOp} (h : asCmp e = some (a, o, b)) : ∃ p, e = .Compare a [o] [b] p := by
  unfold asCmp at h
  split at h
  · cases h; exact ⟨_, rfl⟩
  · cases h
def asSub : Expr → Option (Expr × Expr)
  | .Subscript a b _ => some (a, b)
  | _ => none
theorem asSub_eq {e a b : Expr} (h : asSub e = some (a, b)) : ∃ p, e = .Subscript a b p := by
  unfold asSub at h
  split at h
  · cases h; exact ⟨_, rfl⟩
  · cases h
def asSlc : Expr → Option (Option Expr × Option Expr)
  | .Slice a b none _ => some (a, b)
  | _ => none
theorem asSlc_eq {e : Expr} {a b : Option Expr} (h : asSlc e = some (a, b)) : ∃ p, e = .Slice a b none p := by
  unfold asSlc at h
  split at h
  · cases h; exact ⟨_, rfl⟩
  · cases h
def isRevS : Expr → Bool
  | .Slice none none (some (.UnaryOp .USub (.Constant (.int 1) _ _) _)) _ => true
  | _ => false
theorem isRevS_eq {e : Expr} (h : isRevS e = true) : ∃ k p1 p2 p3, e = .Slice none none (some (.UnaryOp .USub (.Constant (.int 1) k p1) p2)) p3 := by
  unfold isRevS at h
  split at h
  · exact ⟨_, _, _, _, rfl⟩
  · cases h
def asUn : Expr → Option (UnaryOp × Expr)
  | .UnaryOp o a _ => some (o, a)
  | _ => none
theorem asUn_eq {e a : Expr} {o : UnaryOp} (h : asUn e = some (o, a)) : ∃ p, e = .UnaryOp o a p := by
  unfold asUn at h
  split at h
  · cases h; exact ⟨_, rfl⟩
  · cases h
def asCall : Expr → Option (Str × List Expr × List Keyword)
  | .Call (.Name x _) es ks _ => some (x, es, ks)
  | _ => none
theorem asCall_eq {e : Expr} {x : Str} {es : List Expr} {ks : List Keyword} (h : asCall e = some (x, es, ks)) : ∃ p q, e = .Call (.Name x p) es ks q := by
  unfold asCall at h
  split at h
  · cases h; exact ⟨_, _, rfl⟩
  · cases h
def asBool : Expr → Option (BoolOp × List Expr × Pos)
  | .BoolOp o es p => some (o, es, p)
  | _ => none
theorem asBool_eq {e : Expr} {o : BoolOp} {es : List Expr} {p : Pos} (h : asBool e = some (o, es, p)) : e = .BoolOp o es p := by
  unfold asBool at h
  split at h
  · cases h; rfl
  · cases h
def asIf : Expr → Option (Expr × Expr × Expr)
  | .IfExp c a b _ => some (c, a, b)
  | _ => none
theorem asIf_eq {e c a b : Expr} (h : asIf e = some (c, a, b)) : ∃ p, e = .IfExp c a b p := by
  unfold asIf at h
  split at h
  · cases h; exact ⟨_, rfl⟩
  · cases h
def asTup : Expr → Option (List Expr)
  | .Tuple es _ _ => some es
  | _ => none
theorem asTup_eq {e : Expr} {es : List Expr} (h : asTup e = some es) : ∃ k p, e = .Tuple es k p := by
  unfold asTup at h
  split at h
  · cases h; exact ⟨_, _, rfl⟩
  · cases h
def asLst : Expr → Option (List Expr)
  | .List es _ => some es
  | _ => none
theorem asLst_eq {e : Expr} {es : List Expr} (h : asLst e = some es) : ∃ p, e = .List es p := by
  unfold asLst at h
  split at h
  · cases h; exact ⟨_, rfl⟩
  · cases h
def asLc : Expr → Option (Expr × Expr × Expr × List Expr × Scope × Pos)
  | .ListComp elt [⟨tg, iter, ifs, 0⟩] scope pos => some (elt, tg, iter, ifs, scope, pos)
  | _ => none
theorem asLc_eq {e elt tg iter : Expr} {ifs : List Expr} {scope : Scope} {pos : Pos} (h : asLc e = some (elt, tg, iter, ifs, scope, pos)) : e = .ListComp elt [⟨tg, iter, ifs, 0⟩] scope pos := by
  unfold asLc at h
  split at h
  · cases h; rfl
  · cases h
/-- its test is its value's truth -/
def plainT : Expr → Bool
  | .UnaryOp .Not _ _ => false
  | .BoolOp .. => false
  | .IfExp .. => false
  | .Compare .. => false
  | _ => true
theorem plainT_eq {e : Expr} (h : plainT e = true) (env : Env) (whole : Sem Value) : isTrue e env whole = (do let v ← whole; standAt e.pos; holding [v] (truthy v)) := by
  cases e <;> first | rfl | (simp [plainT] at h; done) | skip
  case UnaryOp o a p => cases o <;> first | rfl | (simp [plainT] at h; done)
def notStar : Expr → Bool
  | .Starred .. => false
  | _ => true
theorem star_cons {e : Expr} (h : notStar e = true) (es : List Expr) (env : Env) : starEach (e :: es) env = (false, eval e env) :: starEach es env := by
  cases e <;> first | rfl | (simp [notStar] at h; done)
theorem star_plain {pos : Pos} {env : Env} : ∀ {es : List Expr}, es.all notStar = true → (backTo pos (starEach es env)).any (·.1) = false
  | [], _ => rfl
  | e :: es, h => by
    rw [List.all_cons, Bool.and_eq_true] at h
    rw [star_cons h.1]
    show (false || (backTo pos (starEach es env)).any (·.1)) = false
    rw [star_plain h.2] <;> rfl
def notSet : Expr → Bool
  | .Set .. => false
  | _ => true
theorem notSet_eq {e : Expr} (h : notSet e = true) (env : Env) (v : Value) : foldedSetIterable e env v = pure v := by
  cases e <;> first | rfl | (simp [notSet] at h; done)
theorem notSet_in {e : Expr} (h : notSet e = true) (op : CmpOp) : behindInMarks op e = false := by
  cases e <;> first | rfl | (simp [notSet] at h; done)
def notSlc : Expr → Bool
  | .Slice .. => false
  | _ => true
theorem notSlc_eq {e : Expr} (h : notSlc e = true) : PlainIx e := by
  intro o i
  cases e <;> first | rfl | (simp [notSlc] at h; done)

/-! ### names -/
structure Pat where
  f : Nat
  x : Str
  n : Nat
  ks : List Str
  perm : List Nat
structure Nc where
  N : List Str
  pats : List Pat
  csts : List (Str × PyData)
  gcd : Bool
  k : Nat
  errs : List (Str × Nat) := []
def visB (sc : Scope) (x : Str) : Bool := match sc.names.lookup x with
  | some .local => true
  | some .cell => true
  | some .free => true
  | _ => false
theorem visB_eq {sc : Scope} {x : Str} (h : visB sc x = true) : Vis sc x := by
  unfold visB at h
  split at h
  · exact .inl (by assumption)
  · exact .inr (.inl (by assumption))
  · exact .inr (.inr (by assumption))
  · cases h
def locB (sc : Scope) (x : Str) : Bool := match sc.names.lookup x with
  | some .local => true
  | some .cell => true
  | _ => false
theorem locB_eq {sc : Scope} {x : Str} (h : locB sc x = true) : L2.Loc sc x := by
  unfold locB at h
  split at h
  · exact .inl (by assumption)
  · exact .inr (by assumption)
  · cases h
def glB (sc : Scope) (x : Str) : Bool := match sc.names.lookup x with
  | some .globalImplicit => true
  | _ => false
theorem glB_eq {sc : Scope} {x : Str} (h : glB sc x = true) : sc.names.lookup x = some .globalImplicit := by
  unfold glB at h
  split at h
  · assumption
  · cases h
def varB (nc : Nc) (sc : Scope) (i : Nat) (x : Str) : Bool := decide (nc.N[i]? = some x) && visB sc x && !(x == ("__debug__" : Str)) && !(x == ("__classdict__" : Str))
/-- the slot's name is the def's or block's own -/
def ownB (nc : Nc) (sc : Scope) (i : Nat) (x : Str) : Bool := decide (nc.N[i]? = some x) && locB sc x
/-- the names of the built-ins that the language knows -/
def bltNames : List Str := ["len", "int", "abs", "repr", "list", "tuple", "all", "any", "isinstance", "max", "min", "range", "enumerate", "zip", "reversed", "bool", "str", "sum", "sorted", "set"]
def kwB (ks : List Keyword) : Bool := ks.all fun q => q.arg.isSome

/-- a checker's readings -/
structure Ck where
  v : Scope → Expr → Bool
  t : Scope → Expr → Bool
  a : Scope → List Expr → Bool
  k : Scope → List Keyword → Bool
  i : Scope → Expr → Expr → Bool
  o : Scope → Option Expr → Bool
def oB (v : Expr → Bool) : Option Expr → Bool
  | some e => v e
  | none => false
def Ck.ofV (v : Scope → Expr → Bool) : Ck := { v := v, t := fun sc e => plainT e && v sc e, a := fun _ _ => false, k := fun _ _ => false, i := fun sc _ e => notSet e && v sc e, o := fun sc e => oB (v sc) e }
def Ck.ofI (i : Scope → Expr → Expr → Bool) : Ck := { v := fun _ _ => false, t := fun _ _ => false, a := fun _ _ => false, k := fun _ _ => false, i := fun sc tg e => notSet e && i sc tg e, o := fun _ _ => false }
def tgB (nc : Nc) (sc : Scope) : Tg → Expr → Bool
  | .nm i, e => (match asName e with
    | some x => ownB nc sc i x
    | none => false)
  | .tp is, e => (match asTup e with
    | some es => (es.length == is.length) && (is.zip es).all (fun p => match asName p.2 with
      | some x => ownB nc sc p.1 x
      | none => false)
    | none => false)
def binB (o : O2) (va vb : Expr → Bool) (e : Expr) : Bool :=
  match isBin o with
  | some op => (match asBin e with
    | some (a, op', b) => decide (op = op') && va a && vb b
    | none => false)
  | none => (match isCmp o with
    | some op => (match asCmp e with
      | some (a, op', b) => decide (op = op') && notSet b && va a && vb b
      | none => false)
    | none => (match asSub e with
      | some (a, b) => notSlc b && va a && vb b
      | none => false))
def cmpB (o : O2) (va vb : Expr → Bool) (e : Expr) : Bool :=
  match isCmp o with
  | some op => (match asCmp e with
    | some (a, op', b) => decide (op = op') && notSet b && va a && vb b
    | none => false)
  | none => false
/-- f(e) with f a built-in -/
def callB1 (nc : Nc) (sc : Scope) (nm : Str) (va : Expr → Bool) (e : Expr) : Bool := match asCall e with
  | some (x, [a], []) => decide (x = nm) && glB sc nm && notStar a && va a
  | _ => false
def zlB (sc : Scope) (n : Nat) (va : List Expr → Bool) (e : Expr) : Bool := match asCall e with
  | some (x, [q], []) => decide (x = "list") && glB sc "list" && notStar q && (match asCall q with
    | some (y, e0 :: er, []) => decide (y = "zip") && glB sc "zip" && notStar e0 && er.all notStar && decide (2 ≤ n ∧ n ≤ 4) && va (e0 :: er)
    | _ => false)
  | _ => false
def isB (nc : Nc) (sc : Scope) (ty : Str) (va : Expr → Bool) (e : Expr) : Bool := match asCall e with
  | some (x, [a, t], []) => decide (x = "isinstance") && glB sc "isinstance" && notStar a && va a && decide (asName t = some ty) && glB sc ty
  | _ => false
def isNone : Expr → Bool
  | .Constant .none _ _ => true
  | _ => false
theorem isNone_eq {e : Expr} (h : isNone e = true) : ∃ k p, e = .Constant .none k p := by
  unfold isNone at h
  split at h
  · exact ⟨_, _, rfl⟩
  · cases h
def noneB (op : CmpOp) (va : Expr → Bool) (e : Expr) : Bool := match asCmp e with
  | some (a, op', b) => decide (op = op') && isNone b && va a
  | none => false
def unB (nc : Nc) (sc : Scope) (o : O1) (va : Expr → Bool) (e : Expr) : Bool :=
  match o with
  | .neg => (match asUn e with
    | some (op, a) => decide (op = .USub) && va a
    | none => false)
  | .isN => noneB .Is va e
  | .notN => noneB .IsNot va e
  | .len => callB1 nc sc "len" va e
  | .int => callB1 nc sc "int" va e
  | .abs => callB1 nc sc "abs" va e
  | .repr => callB1 nc sc "repr" va e
  | .list => callB1 nc sc "list" va e
  | .tuple => callB1 nc sc "tuple" va e
  | .all => callB1 nc sc "all" va e
  | .any => callB1 nc sc "any" va e
  | .sum => callB1 nc sc "sum" va e
  | .sset => callB1 nc sc "sorted" (callB1 nc sc "set" va) e
  | .srt => callB1 nc sc "sorted" va e
  | .isInt => isB nc sc "int" va e
  | .isBool => isB nc sc "bool" va e
  | .isTuple => isB nc sc "tuple" va e
  | .isStr => isB nc sc "str" va e
def fnName : O3 → Str
  | .max => "max"
  | .min => "min"
  | .gcd => "gcd"
def fn2B (nc : Nc) (sc : Scope) (o : O3) (va vb : Expr → Bool) (e : Expr) : Bool := match asCall e with
  | some (x, [a, b], []) => decide (x = fnName o) && glB sc (fnName o) && notStar a && notStar b && va a && vb b && (match o with
    | .gcd => nc.gcd
    | _ => true)
  | _ => false
def max3B (nc : Nc) (sc : Scope) (va vb vc : Expr → Bool) (e : Expr) : Bool := match asCall e with
  | some (x, [a, b, c], []) => decide (x = "max") && glB sc "max" && notStar a && notStar b && notStar c && va a && vb b && vc c
  | _ => false
/-- a and b (and ..) -/
def boolB (op : BoolOp) (ta tb : Expr → Bool) (e : Expr) : Bool := match asBool e with
  | some (op', a :: b :: r, p) => decide (op = op') && ta a && (match r with
    | [] => tb b
    | _ :: _ => tb (.BoolOp op (b :: r) p))
  | _ => false
def callB (nc : Nc) (sc : Scope) (f n m : Nat) (perm : List Nat) (ca : List Expr → Bool) (ck : List Keyword → Bool) (e : Expr) : Bool := match asCall e with
  | some (x, es, ks) => glB sc x && !(x == ("__debug__" : Str)) && decide (n = es.length) && decide (m = (ks.filterMap (·.arg)).length) && kwB ks && es.all notStar && ca es && ck ks && (match es, ks with
    | [], [] => false
    | _, _ => true) && nc.pats.any (fun p => decide (p.f = f) && decide (p.x = x) && decide (p.n = es.length) && decide (p.ks = ks.filterMap (·.arg)) && decide (p.perm = perm))
  | none => false
def ownOf (N : List Str) (own : List Nat) : List (Str × Nat) := own.map fun i => (N.getD i "", i)
def lcB (nc : Nc) (own : List Nat) (tg : Tg) (no : Bool) (ve : Scope → Expr → Bool) (ii : Scope → Expr → Expr → Bool) (tc : Scope → Expr → Bool) (sc : Scope) (e : Expr) : Bool := match asLc e with
  | some (elt, tge, iter, ifs, scope, pos) => blkC nc.N sc scope (ownOf nc.N own) && tgB nc scope tg tge && (match tg with
      | .nm i => own.contains i
      | .tp is => is.all own.contains) && ii sc tge iter && notSet iter && ve (relS scope sc) elt && (match ifs with
      | [] => no
      | [c] => !no && tc (relS scope sc) c
      | _ => false)
  | none => false
def rngB1 (sc : Scope) (va : Expr → Bool) (e : Expr) : Bool := match asCall e with
  | some (x, [a], []) => decide (x = "range") && glB sc "range" && notStar a && va a
  | _ => false
def rngB2 (sc : Scope) (va vb : Expr → Bool) (e : Expr) : Bool := match asCall e with
  | some (x, [a, b], []) => decide (x = "range") && glB sc "range" && notStar a && notStar b && va a && vb b
  | _ => false
def rngB3 (sc : Scope) (va vb vc : Expr → Bool) (e : Expr) : Bool := match asCall e with
  | some (x, [a, b, c], []) => decide (x = "range") && glB sc "range" && notStar a && notStar b && notStar c && va a && vb b && vc c
  | _ => false
def nonT (o : O1) (va : Expr → Bool) (e : Expr) : Bool := match o with
  | .isN => noneB .Is va e
  | .notN => noneB .IsNot va e
  | _ => false
def isTupE (e : Expr) : Bool := (asTup e).isSome
def scrB (nc : Nc) (sc : Scope) (i : Nat) (e : Expr) : Bool := match asSub e with
  | some (x, s) => (match asName x, asSlc s with
    | some y, some (none, some (.Constant (.int 63) _ _)) => varB nc sc i y
    | _, _ => false)
  | none => false
def chk (nc : Nc) : E → Ck
  | .scr i => .ofV fun sc e => scrB nc sc i e
  | .dat d => .ofV fun sc e => (match asDat e with
    | some d' => same d' d
    | none => false) || (match asName e with
      | some x => glB sc x && !(x == ("__debug__" : Str)) && nc.csts.any (fun c => decide (c.1 = x) && same c.2 d)
      | none => false)
  | .var i => .ofV fun sc e => (match asName e with
    | some x => varB nc sc i x
    | none => false)
  | .bin o a b => { Ck.ofV (fun sc e => binB o ((chk nc a).v sc) ((chk nc b).v sc) e) with
      t := fun sc e => (plainT e && binB o ((chk nc a).v sc) ((chk nc b).v sc) e) || cmpB o ((chk nc a).v sc) ((chk nc b).v sc) e }
  | .un o a => { Ck.ofV (fun sc e => unB nc sc o ((chk nc a).v sc) e) with
      t := fun sc e => (plainT e && unB nc sc o ((chk nc a).v sc) e) || nonT o ((chk nc a).v sc) e }
  | .fn2 o a b => .ofV fun sc e => fn2B nc sc o ((chk nc a).v sc) ((chk nc b).v sc) e
  | .max3 a b c => .ofV fun sc e => max3B nc sc ((chk nc a).v sc) ((chk nc b).v sc) ((chk nc c).v sc) e
  | .band a b => { Ck.ofV (fun sc e => boolB .And ((chk nc a).v sc) ((chk nc b).v sc) e) with t := fun sc e => boolB .And ((chk nc a).t sc) ((chk nc b).t sc) e }
  | .bor a b => { Ck.ofV (fun sc e => boolB .Or ((chk nc a).v sc) ((chk nc b).v sc) e) with t := fun sc e => boolB .Or ((chk nc a).t sc) ((chk nc b).t sc) e }
  | .bnot a => { Ck.ofV (fun sc e => match asUn e with
      | some (op, b) => decide (op = .Not) && (chk nc a).v sc b
      | none => false) with t := fun sc e => match asUn e with
      | some (op, b) => decide (op = .Not) && (chk nc a).t sc b
      | none => false }
  | .ife c a b => .ofV fun sc e => (match asIf e with
    | some (ec, ea, eb) => (chk nc c).t sc ec && (chk nc a).v sc ea && (chk nc b).v sc eb
    | none => false)
  | .tup es => .ofV fun sc e => (match asTup e with
    | some xs => (chk nc es).a sc xs
    | none => false)
  | .lst es => .ofV fun sc e => (match asLst e with
    | some xs => (chk nc es).a sc xs
    | none => false)
  | .slc a lo hi => .ofV fun sc e => (match asSub e with
    | some (x, s) => (match asSlc s with
      | some (l, h) => (chk nc a).v sc x && (chk nc lo).o sc l && (chk nc hi).o sc h
      | none => false)
    | none => false)
  | .zl es => .ofV fun sc e => zlB sc (eLen es) ((chk nc es).a sc) e
  | .rev a => .ofV fun sc e => (match asSub e with
    | some (x, s) => isRevS s && (chk nc a).v sc x
    | none => false)
  | .call f perm es ks => .ofV fun sc e => callB nc sc f (eLen es) (eLen ks) perm ((chk nc es).a sc) ((chk nc ks).k sc) e
  | .cmp own elt tg it c => .ofV fun sc e => lcB nc own tg (isNo c) (chk nc elt).v (chk nc it).i (chk nc c).t sc e
  | .rng1 a => .ofI fun sc _ e => rngB1 sc ((chk nc a).v sc) e
  | .rng2 a b => .ofI fun sc _ e => rngB2 sc ((chk nc a).v sc) ((chk nc b).v sc) e
  | .rng3 a b c => .ofI fun sc _ e => rngB3 sc ((chk nc a).v sc) ((chk nc b).v sc) ((chk nc c).v sc) e
  | .enu a => .ofI fun sc tg e => isTupE tg && callB1 nc sc "enumerate" ((chk nc a).v sc) e
  | .zip2 a b => .ofI fun sc tg e => isTupE tg && (match asCall e with
    | some (x, [p, q], []) => decide (x = "zip") && glB sc "zip" && notStar p && notStar q && (chk nc a).v sc p && (chk nc b).v sc q
    | _ => false)
  | .rvd a => .ofI fun sc _ e => callB1 nc sc "reversed" ((chk nc a).v sc) e
  | .no => { Ck.ofI (fun _ _ _ => false) with o := fun _ e => e.isNone }
  | .nil => { Ck.ofI (fun _ _ _ => false) with a := fun _ es => es.isEmpty, k := fun _ ks => ks.isEmpty }
  | .cons a r => { Ck.ofI (fun _ _ _ => false) with
      a := fun sc es => match es with
        | e :: es => notStar e && (chk nc a).v sc e && (chk nc r).a sc es
        | [] => false
      k := fun sc ks => match ks with
        | q :: ks => (chk nc a).v sc q.value && (chk nc r).k sc ks
        | [] => false }
end Un
end
section
/-! Un: enumerate of a tuple; a sequence of either kind walked. -/
namespace PySem
open Sem (wp)
open AutoSeq1 (wpAny_loadPart')
/-- enumerate(v), v told by what its iterator is -/
theorem unMeetsEnum {v : Value} {io : Obj} {Ht : Heap → Prop} (Bg : Begins v io Ht) : Meets (Builtin.«enumerate.__new__» ⟨[.type "enumerate", v], []⟩) (fun _ Rr st => Ht st.heap ∧
      Rr (.ok (.ret (.ref (st.heap.push io).objs.size))) { st with heap := (st.heap.push io).push { cls := .type "enumerate", data := .fields #[.none, .bool false, .ref st.heap.objs.size, rawInt 0, .none, .none] } }) :=
  .of_wp fun pg wd Ar Rr st hyp => by
    obtain ⟨hh, gg, dd, tt, oo⟩ := st
    obtain ⟨ht, hyp⟩ := hyp
    have hsb := sub_enumerate
    have qi : ∀ {A2 : Around} {E2 : Value → Shared → Prop} {Q2 : Value → Shared → Prop}, Q2 (.ref hh.objs.size) ⟨hh.push io, gg, dd, tt, oo⟩ → wpAny (model pg wd) A2 (pyIter v) Q2 E2 ⟨hh, gg, dd, tt, oo⟩ :=
      fun z => Bg.iter pg wd _ _ ⟨hh, gg, dd, tt, oo⟩ _ ht z
    wp_walk using qi
    refine wpAny_stack_any fun _ => wpAny_pure ?_
    split
    · rename_i cc _ _ _ _ _
      cases (cc == Value.type "enumerate")
      · wp_walk using qi
        exact ⟨_, rfl, hyp⟩
      · wp_walk using qi
        exact ⟨_, rfl, hyp⟩
    · wp_walk using qi
      exact ⟨_, rfl, hyp⟩
theorem unCallEnum {prog : Program} {w : World} {A : Around} {E : Value → Shared → Prop} {s : Shared} {v : Value} {io : Obj} {Ht : Heap → Prop} {Q : Value → Shared → Prop} (Bg : Begins v io Ht) (ht : Ht s.heap)
    (q : ∀ hp, IsEnum hp (s.heap.objs.size + 1) s.heap.objs.size 0 .none → hp.get? s.heap.objs.size = some io → hp.objs.size = s.heap.objs.size + 2 →
      (∀ c u, s.heap.get? c = some u → hp.get? c = some u) → Q (.ref (s.heap.objs.size + 1)) { s with heap := hp }) :
    wpAny (model prog w) A (call (.type "enumerate") [v]) Q E s := by
  refine callType_new F.called_enumerate (by decide) (F.typeCall_enumerate_1 _) (F.newCall_enumerate_1 _) (fun ob => F.args_object_init_2 ob _) F.entry_enumerate_new (unMeetsEnum Bg) ⟨ht, ?_⟩
  have sz : (s.heap.push io).objs.size = s.heap.objs.size + 1 := Heap.size_push ..
  show _ ∧ _
  rw [sz]
  have en : IsEnum ((s.heap.push io).push { cls := .type "enumerate", data := .fields #[.none, .bool false, .ref s.heap.objs.size, rawInt 0, .none, .none] }) (s.heap.objs.size + 1) s.heap.objs.size 0 .none := by
    have z := Heap.get?_push_size (s.heap.push io) (o := { cls := .type "enumerate", data := .fields #[.none, .bool false, .ref s.heap.objs.size, rawInt 0, .none, .none] }) rfl
    rw [sz] at z
    exact z
  exact ⟨⟨_, en, rfl⟩, q _ en (Heap.get?_push_of_some _ (Heap.get?_push_size _ Bg.free)) (by rw [Heap.size_push, sz]) fun c u z => Heap.get?_push_of_some _ (Heap.get?_push_of_some _ z)⟩
end PySem
namespace Un
open PySem PySem.Spec PyProof.Rows L2

/-- the tuple at a, each item in a new pair -/
def IteT (K : PySem.W.Frag) (a : Addr) : It :=
  ⟨fun i H => ∃ (xs : List V) (x : V), SqT K H a xs ∧ xs[i]? = some x,
    fun i H v H' => ∃ T x, v = .ref T ∧ H T = none ∧ H' = upd H T (.tup [.int (i : Nat), x]) ∧ ∀ xs, SqT K H a xs → xs[i]? = some x,
    fun i H => ∃ xs : List V, SqT K H a xs ∧ xs.length ≤ i⟩
theorem turn_enumT {P : Program} {w : World} {K : PySem.W.Frag} {elts : List Expr} {kk : Nat} {tpos : Pos} (a en it : Addr) :
    Turn P w K (.Tuple elts kk tpos) (IteT K a) [en, it] en (fun i h => (∃ old, IsEnum h en it ((i : Nat) : Int) old) ∧ h.IsTupleIter it a i ∧ en ≠ it ∧ a ≠ it ∧ a ≠ en) where
  mem := by simp
  obj := fun i h st b hb => by
    obtain ⟨⟨old, he⟩, ⟨o, ho, hc, hd⟩, _⟩ := st
    have e' : b = en ∨ b = it := by simpa using hb
    rcases e' with rfl | rfl
    · exact ⟨_, he, fun v q => nomatch q⟩
    · exact ⟨o, ho, fun v q => by rw [hd] at q; cases q⟩
  keep := fun i h h' st kp => by
    obtain ⟨⟨old, he⟩, hi, hne⟩ := st
    exact ⟨⟨old, kp en (by simp) _ he⟩, hi.at fun o q => kp it (by simp) o q, hne⟩
  item := by
    intro X hP hw hK hcm i pins s σ H E I hf st hg
    subst hP hw hK
    obtain ⟨⟨old, he⟩, hit, hne, hai, hae⟩ := st
    obtain ⟨xs, x, hq, hx⟩ := hg
    obtain ⟨its, rv, p, hz⟩ := I.tuple hq
    obtain ⟨u, hu, ru⟩ := rv.get hx
    have hin : i < its.toArray.size := by
      have := (List.getElem?_eq_some_iff.mp hu).1
      simpa using this
    have hel : en < s.heap.objs.size := Heap.lt_size he
    have hil : it < s.heap.objs.size := by
      obtain ⟨_, q, _⟩ := hit
      exact Heap.lt_size q
    have D := Draws.tuple (prog := X.prog) (w := X.w) (A := X.A.in1) (by rw [← I.ok.hd hcm] <;> rfl) it a hai its.toArray
    refine wpAny_pyNext_enum_itemD D he ⟨hit, p⟩ hin hne (by simp [hne, Ne.symm hae]) fun y h' tk hy ho st' hT hsz hk => ?_
    have eu : y = u := by
      have : its.toArray[i]? = some y := hy
      rw [List.getElem?_toArray] at this
      rw [hu] at this
      exact (Option.some.inj this).symm
    subst eu
    refine ⟨_, rfl, wpAny_letOwnedTupleGo_enum (s := { s with heap := h', toks := tk + 1 }) ho fun h'' he' sb => ?_⟩
    have hT2 : h''.get? s.heap.objs.size = some { cls := .type "tuple", data := .seq #[.int i tk, y] } := (sb.2 _ (Nat.ne_of_gt hel)).trans hT
    have fresh : ObjOk X.prog X.w (upd H s.heap.objs.size (.tup [.int (i : Nat), x])) h'' s.heap.objs.size (.tup [.int (i : Nat), x]) :=
      ⟨by show 2 ≤ sizeLine; decide, [.int i tk, y], .cons ⟨_, rfl⟩ (.cons ru .nil), ⟨_, hT2, rfl, _, rfl⟩⟩
    have I1 : Inv X pins σ (upd H s.heap.objs.size (.tup [.int (i : Nat), x])) { s with heap := h'', toks := tk + 1 } :=
      I.turnedNew (ch := [en, it]) (fun b ob hb q => (sb.2 b (fun z => hb (by simp [z]))).trans (hk b ob (fun z => hb (by simp [z])) (fun z => hb (by simp [z])) q)) hf (Nat.le_refl _) fresh
    refine ⟨.ref s.heap.objs.size, _, I1, rfl, ⟨_, x, rfl, I.hok.fresh (Nat.le_refl _), rfl, fun ys hy2 => by rw [I.tuple_inj hy2 hq]; exact hx⟩, ⟨⟨y, ?_⟩, st'.1.at fun o q => (sb.2 it (Ne.symm hne)).trans q, hne, hai, hae⟩, fun b hb => ?_⟩
    · have e1 : ((i + 1 : Nat) : Int) = (i : Int) + 1 := by omega
      rw [e1]
      exact he'
    · have e' : b = en ∨ b = it := by simpa using hb
      have hlt : b < s.heap.objs.size := by
        rcases e' with rfl | rfl
        · exact hel
        · exact hil
      rw [upd_ne (Nat.ne_of_lt hlt)]
      exact (hf b hb).1
  done := by
    intro X hP hw hK hcm i pins s σ H E I hf st hg
    subst hP hw hK
    obtain ⟨⟨old, he⟩, hit, hne, hai, hae⟩ := st
    obtain ⟨xs, hq, hx⟩ := hg
    obtain ⟨its, rv, p, hz⟩ := I.tuple hq
    obtain ⟨f0, f1, f2, f3, f4, f5⟩ := hf it (by simp)
    have hh : X.A.in1.handled = none := by rw [← I.ok.hd hcm] <;> rfl
    have hend : its.toArray[i]? = none := by
      have l1 := rv.length
      simp
      omega
    have D : Draws X.prog X.w X.A.in1 it [it, a] i (fun _ _ => True) (fun j h => i ≤ j ∧ h.IsTupleIter it a j ∧ h.IsTuple a its.toArray) :=
      { live := fun _ _ st => by
          obtain ⟨_, ⟨o, ho, _⟩, _⟩ := st
          exact ⟨o, ho⟩
        frame := fun _ _ _ st hk => ⟨st.1, st.2.1.at fun o e => hk it (by simp) o e, st.2.2.at fun o e => hk a (by simp) o e⟩
        item := fun j s Q E hj st _ => absurd hj (Nat.not_lt.mpr st.1)
        done := fun s Q E st hE => wpAny_nextOf_tuple_end hh st.2.1 st.2.2 hend hE }
    exact wpAny_pyNext_enum_endD D he ⟨Nat.le_refl _, hit, p⟩ fun h' eb => ⟨rfl, I.turned (t' := s.toks) (fun b o hb q => eb b o hb q) f0 f1 f3 f4 f5⟩
  self := fun A i s Q E st h => by
    obtain ⟨⟨_, he⟩, _⟩ := st
    exact wpAny_pyIter_enum he h
/-- the list or tuple at a -/
def iEnumA (K : PySem.W.Frag) (te : TE) : TI := fun σ H R => te σ H fun v H1 => ∃ a xs, v = .ref a ∧ ((SqL K H1 a xs ∧ R (Ite K a) H1) ∨ (SqT K H1 a xs ∧ R (IteT K a) H1))
def iSeqA (K : PySem.W.Frag) (te : TE) : TI := fun σ H R => te σ H fun v H1 => ∃ a xs, v = .ref a ∧ ((SqL K H1 a xs ∧ R (Itl K a) H1) ∨ (SqT K H1 a xs ∧ R (Itt K a) H1))
section
variable {X : Cx} {tg e : Expr} {te : TE} {p pos tpos : Pos} {elts : List Expr} {kk : Nat}
theorem pi_enumA (hg : Gl X "enumerate") (hm : X.mg "enumerate" = none) (he : PE X e te) (hs : starEach [e] X.env = (false, eval e X.env) :: starEach [] X.env) :
    PI X (.Tuple elts kk tpos) (.Call (.Name "enumerate" p) [e] [] pos) (iEnumA X.K te) := by
  refine ⟨fun pins s σ H R I h => ?_⟩
  refine Call_ (ld_blt I hg hm boot_enumerate (PyProof.Rows.callWith_type1 (args_cons (thn (he.run pins s σ H _ I h) fun u s1 ⟨v, H1, I1, r1, q1⟩ => args_nil ?_) hs) hs rfl))
  obtain ⟨a, xs, ev, q⟩ := q1
  subst ev
  obtain rfl : u = Value.ref a := r1
  have fp : ∀ b, b ∈ [s1.heap.objs.size + 1, s1.heap.objs.size] → FpOk X pins H1 b := fun b hb => by
    have e' : b = s1.heap.objs.size + 1 ∨ b = s1.heap.objs.size := by simpa using hb
    have hle : s1.heap.objs.size ≤ b := by
      rcases e' with z | z
      · rw [z]; exact Nat.le_add_right _ _
      · rw [z]; exact Nat.le_refl _
    exact I1.fpOk hle (I1.hok.fresh hle)
  rcases q with ⟨hq, q⟩ | ⟨hq, q⟩
  · obtain ⟨its, rv, p', hz⟩ := I1.list hq
    refine unCallEnum (begins_list a its.toArray) p'.isList fun h' hen hit hsz hk => wpAny_pyIter_enum hen ?_
    have I2 : Inv X pins σ H1 { s1 with heap := h' } := I1.kept (t' := s1.toks) hk
    exact ⟨s1.heap.objs.size + 1, [s1.heap.objs.size + 1, s1.heap.objs.size], _, _, H1, rfl, I2, turn_enum a (s1.heap.objs.size + 1) s1.heap.objs.size, ⟨⟨.none, hen⟩, ⟨_, hit, rfl, rfl⟩, Nat.succ_ne_self _⟩, fp, q⟩
  · obtain ⟨its, rv, p', hz⟩ := I1.tuple hq
    have hal : a < s1.heap.objs.size := p'.lt
    refine unCallEnum (begins_tuple a its.toArray) p' fun h' hen hit hsz hk => wpAny_pyIter_enum hen ?_
    have I2 : Inv X pins σ H1 { s1 with heap := h' } := I1.kept (t' := s1.toks) hk
    exact ⟨s1.heap.objs.size + 1, [s1.heap.objs.size + 1, s1.heap.objs.size], _, _, H1, rfl, I2, turn_enumT a (s1.heap.objs.size + 1) s1.heap.objs.size, ⟨⟨.none, hen⟩, ⟨_, hit, rfl, rfl⟩, Nat.succ_ne_self _, Nat.ne_of_lt hal, Nat.ne_of_lt (Nat.lt_succ_of_lt hal)⟩, fp, q⟩
theorem pi_seqA (he : PE X e te) : PI X tg e (iSeqA X.K te) := by
  refine ⟨fun pins s σ H R I h => ?_⟩
  refine thn (he.run pins s σ H _ I h) fun u s1 ⟨v, H1, I1, r1, q1⟩ => ?_
  obtain ⟨a, xs, ev, q⟩ := q1
  subst ev
  cases r1
  have fp : ∀ b, b ∈ [s1.heap.objs.size] → FpOk X pins H1 b := fun b hb => by
    obtain rfl : b = s1.heap.objs.size := by simpa using hb
    exact I1.fpOk (Nat.le_refl _) (I1.hok.fresh (Nat.le_refl _))
  rcases q with ⟨hq, q⟩ | ⟨hq, q⟩
  · obtain ⟨its, rv, p', hz⟩ := I1.list hq
    refine wpAny_pyIter_list p'.isList ?_
    exact ⟨_, [s1.heap.objs.size], _, _, H1, rfl, I1.kept (t' := s1.toks) fun b o z => Heap.get?_push_of_some _ z, turn_list a _, ⟨_, Heap.get?_push_size _ rfl, rfl, rfl⟩, fp, q⟩
  · obtain ⟨its, rv, p', hz⟩ := I1.tuple hq
    refine wpAny_pyIter_tuple (show s1.heap.IsTuple a its.toArray from p') ?_
    exact ⟨_, [s1.heap.objs.size], _, _, H1, rfl, I1.kept (t' := s1.toks) fun b o z => Heap.get?_push_of_some _ z, turn_tuple a _, ⟨_, Heap.get?_push_size _ rfl, rfl, rfl⟩, fp, q⟩
end
end Un
end
section
/-! Un: t[::-1] of a tuple. -/
namespace Un
open PySem PySem.Spec PyProof.Rows L2 HT
section
variable {prog : Program} {w : World} {A : Around} {E : Value → Shared → Prop} {s : Shared}
theorem back_adj (n : Nat) : Builtin.Slice.sliceAdjust none none (-1) (n : Int) = ((n : Int) - 1, -1) := by
  unfold Builtin.Slice.sliceAdjust
  simp <;> omega
theorem back_pl (n : Nat) : Builtin.Slice.slicePlaces ((n : Int) - 1) (-1) (-1) = n := by
  unfold Builtin.Slice.slicePlaces
  simp <;> omega
theorem back_pick (its : Array Value) : ((List.range its.size).filterMap fun (m : Nat) => its[(((its.size : Nat) : Int) - 1 + (m : Int) * (-1)).toNat]?).toArray = its.toList.reverse.toArray := by
  congr 1
  apply List.ext_getElem?
  intro j
  have e : (fun (m : Nat) => its[(((its.size : Nat) : Int) - 1 + (m : Int) * (-1)).toNat]?) = fun m => its[its.size - 1 - m]? := by
    funext m
    have : (((its.size : Nat) : Int) - 1 + (m : Int) * (-1)).toNat = its.size - 1 - m := by omega
    rw [this]
  rw [e]
  have e1 : ∀ l : List Nat, (∀ m ∈ l, m < its.size) → l.filterMap (fun m => its[its.size - 1 - m]?) = l.map fun m => its[its.size - 1 - m]! := fun l => by
    induction l with
    | nil => intro _; rfl
    | cons m l ih =>
      intro hl
      have hm := hl m (by simp)
      have h2 : its.size - 1 - m < its.size := by omega
      rw [List.filterMap_cons, List.map_cons, ih fun x hx => hl x (by simp [hx])]
      simp [h2]
  have e2 : ∀ k, k ≤ its.size → (List.range k).filterMap (fun m => its[its.size - 1 - m]?) = (List.range k).map fun m => its[its.size - 1 - m]! := fun k hk =>
    e1 _ fun m hm => Nat.lt_of_lt_of_le (List.mem_range.mp hm) hk
  rw [e2 _ (Nat.le_refl _)]
  by_cases hj : j < its.size
  · have h2 : its.size - 1 - j < its.size := by omega
    rw [List.getElem?_map, List.getElem?_range hj, List.getElem?_reverse (by simpa using hj)]
    simp [h2]
  · rw [List.getElem?_eq_none (by simpa using hj), List.getElem?_eq_none (by simpa using hj)]
theorem slice_back {sl : Addr} {vk : Value} {n : Nat} {Q : Int × Int × Nat → Shared → Prop} (hs : s.heap.IsSliceOf sl .none .none vk) (pk : IsPart vk (some (-1)))
    (q : Q ((n : Int) - 1, -1, n) s) : wpAny (model prog w) A (Builtin.Slice.sliceApplied (.ref sl) (pure (n : Int))) Q E s := by
  obtain ⟨os, hos, hcs, hds⟩ := id hs
  unfold Builtin.Slice.sliceApplied Builtin.Slice.sliceFields
  refine wpAny_bind (wpAny_bind (wpAny_field hos hds (x := .none) rfl (wpAny_bind (wpAny_field hos hds (x := .none) rfl (wpAny_bind (wpAny_field hos hds (x := vk) rfl (wpAny_pure ?_)))))))
  refine wpAny_bind (slicePart_ pk ?_)
  show wpAny _ _ (if ((-1 : Int) == 0) = true then _ else _) _ _ s
  rw [if_neg (by decide)]
  refine wpAny_bind (slicePart_none (wpAny_bind (slicePart_none (wpAny_bind (wpAny_pure ?_)))))
  show wpAny _ _ (match Builtin.Slice.sliceAdjust none none (-1) (n : Int) with | (lo, hi) => pure (lo, (-1 : Int), Builtin.Slice.slicePlaces lo hi (-1))) _ _ s
  rw [back_adj]
  show wpAny _ _ (pure ((n : Int) - 1, (-1 : Int), Builtin.Slice.slicePlaces ((n : Int) - 1) (-1) (-1))) _ _ s
  rw [back_pl]
  exact wpAny_pure q
theorem getItem_tuple_back {t sl : Addr} {items : Array Value} {vk : Value} {Q : Value → Shared → Prop} (ht : IsTup s.heap t items) (hs : s.heap.IsSliceOf sl .none .none vk) (pk : IsPart vk (some (-1)))
    (h : Q (.ref s.heap.objs.size) { s with heap := s.heap.push { cls := .type "tuple", data := .seq items.toList.reverse.toArray } }) (hsz : items.size ≤ sizeLine) : wpAny (model prog w) A (getItem (.ref t) (.ref sl)) Q E s := by
  have hfit : sizeOk (.seq items.toList.reverse.toArray) := by
    show items.toList.reverse.toArray.size ≤ sizeLine
    simpa using hsz
  obtain ⟨os, hos, hcs, hds⟩ := id hs
  have hT2 : s.TypeIs (.ref sl) "slice" := ⟨os, hos, hcs⟩
  unfold getItem
  try with_reducible refine wpAny_holding ?_
  first | refine wpAny_bind (wpAny_pure ?_) | skip
  refine wpAny_bind (wpAny_sequenceKey ht.typeIs (by decide) ?_)
  refine wpAny_bind (wpAny_callSpecial?_slot (name := Str.ofString "__getitem__") ht.typeIs PyProof.Rows.slot_tuple_getitem (wpAny_call_entry PyProof.Rows.slot_tuple_getitem ht.typeIs entry_tuple_getitem ?_ (args_tuple_getitem _ _)))
  show wpAny _ _ (Builtin.Tuple.tupleItemsOf (.ref t) >>= _) _ _ s
  refine wpAny_bind (tupleItemsOf_ ht (wpAny_bind (wpAny_typeOf hT2 ?_)))
  rw [if_pos (by decide)]
  refine wpAny_bind (slice_back hs pk ?_)
  have hno : ¬ ((((items.size : Nat) : Int) - 1 == 0 && (-1 : Int) == 1 && items.size == items.size) = true) := by
    rw [show ((-1 : Int) == 1) = false by decide]
    simp
  show wpAny _ _ (if (((items.size : Nat) : Int) - 1 == 0 && (-1 : Int) == 1 && items.size == items.size) = true then _ else _) _ _ s
  rw [if_neg hno, back_pick]
  first
    | exact wpAny_bind (m := Builtin.Tuple.tupleExact _) (wpAny_newObj_type (wpAny_pure ⟨_, rfl, wpAny_pure h⟩) hfit)
    | exact wpAny_bind (m := Builtin.Tuple.tupleExact _) (wpAny_newObj_type (wpAny_bind (wpAny_pure (wpAny_pure ⟨_, rfl, wpAny_pure h⟩))) hfit)
    | exact wpAny_bind (wpAny_bind (m := Builtin.Tuple.tupleExact _) (wpAny_newObj_type (wpAny_pure (wpAny_pure ⟨_, rfl, wpAny_pure h⟩)) hfit))
    | exact wpAny_bind (wpAny_bind (m := Builtin.Tuple.tupleExact _) (wpAny_newObj_type (wpAny_pure ⟨_, rfl, wpAny_pure h⟩) hfit))
end
section
variable {X : Cx}
/-- x[::-1], x a list or a tuple -/
def tRevA (K : PySem.W.Frag) (te : TE) : TE := fun σ H Q => te σ H fun x H1 => ∃ a xs, x = .ref a ∧ ((SqL K H1 a xs ∧ ∀ p, H1 p = none → Q (.ref p) (upd H1 p (.lst xs.reverse))) ∨ (SqT K H1 a xs ∧ ∀ p, H1 p = none → Q (.ref p) (upd H1 p (.tup xs.reverse))))
theorem pe_revA {e : Expr} {te : TE} {k : Nat} {p1 p2 p3 pos : Pos} (he : PE X e te) : PE X (.Subscript e (.Slice none none (some (.UnaryOp .USub (.Constant (.int 1) k p1) p2)) p3) pos) (tRevA X.K te) := by
  refine ⟨fun pins s σ H Q I h => ?_⟩
  refine Subscript_ (thn (he.run pins s σ H _ I h) fun v s1 ⟨x, H1, I1, r1, q1⟩ => ?_)
  obtain ⟨a, xs, ex, q⟩ := q1
  subst ex
  cases r1
  have step : PO X (some (.UnaryOp .USub (.Constant (.int 1) k p1) p2)) (tPart (tUn (rU fun i => .int (-i)) (tC (.int 1)))) := po_some (pe_un un_neg pe_int)
  refine wpAny_Slice (thn (po_none.run pins s1 σ H1 (fun o Hx => o = none ∧ Hx = H1) I1 ⟨rfl, rfl⟩) fun vl s2 ⟨l, H2, I2, pl, el, e2⟩ => ?_)
  subst el e2
  cases pl
  refine thn (po_none.run pins s2 σ H2 (fun o Hx => o = none ∧ Hx = H2) I2 ⟨rfl, rfl⟩) fun vu s3 ⟨u, H3, I3, pu, eu, e3⟩ => ?_
  subst eu e3
  cases pu
  refine thn (step.run pins s3 σ H3 (fun o Hx => o = some (-1) ∧ Hx = H3) I3 ⟨1, rfl, -1, rfl, rfl, rfl⟩) fun vk s4 ⟨o, H4, I4, pk, eo, e4⟩ => ?_
  subst eo e4
  have I5 : Inv X pins σ H4 { s4 with heap := s4.heap.push { cls := .type "slice", data := .fields #[.none, .none, vk] } } := I4.kept (t' := s4.toks) fun b ob z => Heap.get?_push_of_some _ z
  show wpAny (model X.prog X.w) X.A (subscriptTail e (.Slice none none (some (.UnaryOp .USub (.Constant (.int 1) k p1) p2)) p3) (.ref a) (.ref s4.heap.objs.size)) (EP X pins σ Q) X.xe { s4 with heap := s4.heap.push { cls := .type "slice", data := .fields #[.none, .none, vk] } }
  rcases q with ⟨hx, q⟩ | ⟨hx, q⟩
  · obtain ⟨its, r, ht, hz⟩ := I5.list hx
    have hlen := r.length
    refine tail_any (ops := [.ref a, .ref s4.heap.objs.size]) ht.isList.typeIs (PySem.slot_list_getitem.lookup) ?_ (by with_unfolding_all rfl)
    refine wpAny_getItem_list_slice ht.isList (Heap.IsSliceOf.new _ .none .none vk) .none .none pk (by decide) ?_ (by rw [List.size_toArray]; omega)
    rw [PySem.W.krv_pick]
    refine ⟨.ref _, _, I5.laid (t' := s4.toks) (o := .lst xs.reverse) (fun b ob z => Heap.get?_push_of_some _ z) (Nat.le_refl _) ?_, rfl, q _ (I5.hok.fresh (Nat.le_refl _))⟩
    exact ⟨by rw [List.length_reverse]; exact hz, _, 0, r.reverse, Heap.get?_push_size _ rfl⟩
  · obtain ⟨its, r, ht, hz⟩ := I5.tuple hx
    have hlen := r.length
    refine tail_any (ops := [.ref a, .ref s4.heap.objs.size]) ht.typeIs (PyProof.Rows.slot_tuple_getitem.lookup) ?_ (by with_unfolding_all rfl)
    refine getItem_tuple_back ht (Heap.IsSliceOf.new _ .none .none vk) pk ?_ (by rw [List.size_toArray]; omega)
    refine ⟨.ref _, _, I5.laid (t' := s4.toks) (o := .tup xs.reverse) (fun b ob z => Heap.get?_push_of_some _ z) (Nat.le_refl _) ?_, rfl, q _ (I5.hok.fresh (Nat.le_refl _))⟩
    exact ⟨by rw [List.length_reverse]; exact hz, _, r.reverse, IsTup.new _ _⟩
end
end Un
end
section
/-! Un: what is walked. -/
namespace Un
open PySem PySem.Spec L2
section
variable {l : Lay} {x : KX} {K : PySem.W.Frag} {L : Loc} {B Hs His Hi H Hi' H' : Hp} {σ : L2.St} {ρ : List SV}
/-- a walked worth, fixed -/
theorem AvOk.seq {v : V} {a : AV} {k : List PyData → Prop} (h : AvOk K L B Hs Hi H v a) (g : Grow L His Hs Hi H) (hw : seqW a k) : ∃ Hi2 p vs xs, Grow L His Hs Hi2 H ∧ Same Hi Hi2 ∧ v = .ref p ∧ DqAll K Hi2 vs xs ∧ k xs ∧
    (Hi2 p = some (.lst vs) ∨ SqT K Hi2 p vs) := by
  obtain ⟨d, e, hw⟩ := hw
  obtain ⟨Hi2, g2, s2, d2, _⟩ := h.fix g e
  cases d with
  | list xs =>
    cases d2 with
    | lst h1 h2 => exact ⟨Hi2, _, _, xs, g2, s2, rfl, h2, hw, .inl h1⟩
  | tuple xs =>
    cases d2 with
    | tup h1 h2 => exact ⟨Hi2, _, _, xs, g2, s2, rfl, h2, hw, .inr h1⟩
  | _ => exact hw.elim
theorem it_list {p : Addr} {vs : List V} {xs : List PyData} {Hi1 H1 : Hp} (h : Hi1 p = some (.lst vs)) (d : DqAll K Hi1 vs xs) : ItOk K L Hi1 H1 (Itl K p) xs where
  go := fun i Hi H s1 s2 _ _ hi => by
    have hl := d.len
    exact ⟨vs, vs[i], SqL.of (s2 _ _ (s1 _ _ h)), by simp⟩
  stop := fun i Hi H s1 s2 _ _ hi => ⟨vs, SqL.of (s2 _ _ (s1 _ _ h)), by rw [d.len]; omega⟩
  yld := fun i Hi H y v H' s1 s2 _ ok hy hv => by
    obtain ⟨rfl, hv⟩ := hv
    obtain ⟨u, hu, du⟩ := d.get hy
    have e := hv vs (SqL.of (s2 _ _ (s1 _ _ h)))
    rw [hu] at e
    cases e
    exact ⟨Hi, Grow.refl s2, ok, Dq.mono s1 _ _ du⟩
theorem it_tup {p : Addr} {vs : List V} {xs : List PyData} {Hi1 H1 : Hp} (h : SqT K Hi1 p vs) (d : DqAll K Hi1 vs xs) : ItOk K L Hi1 H1 (Itt K p) xs where
  go := fun i Hi H s1 s2 _ _ hi => by
    have hl := d.len
    exact ⟨vs, vs[i], sqT_mono s2 (sqT_mono s1 h), by simp⟩
  stop := fun i Hi H s1 s2 _ _ hi => ⟨vs, sqT_mono s2 (sqT_mono s1 h), by rw [d.len]; omega⟩
  yld := fun i Hi H y v H' s1 s2 _ ok hy hv => by
    obtain ⟨rfl, hv⟩ := hv
    obtain ⟨u, hu, du⟩ := d.get hy
    have e := hv vs (sqT_mono s2 (sqT_mono s1 h))
    rw [hu] at e
    cases e
    exact ⟨Hi, Grow.refl s2, ok, Dq.mono s1 _ _ du⟩
theorem enuL_get : ∀ (xs : List PyData) (n i : Nat), (enuL n xs)[i]? = (xs[i]?).map fun x => .tuple [.int ((n + i : Nat) : Int), x]
  | [], n, i => by simp [enuL]
  | x :: xs, n, 0 => by simp [enuL]
  | x :: xs, n, i + 1 => by
    rw [enuL, List.getElem?_cons_succ, List.getElem?_cons_succ, enuL_get xs (n + 1) i]
    rw [show n + 1 + i = n + (i + 1) by omega]
theorem enuL_len : ∀ (xs : List PyData) (n : Nat), (enuL n xs).length = xs.length
  | [], n => rfl
  | x :: xs, n => by rw [enuL, List.length_cons, List.length_cons, enuL_len xs]
/-- a new pair -/
theorem pair_ok {H Hi : Hp} {T : Addr} {u v : V} {x y : PyData} (s : Same Hi H) (ok : L.ok H) (hT : H T = none) (dx : Dq K Hi u x) (dy : Dq K Hi v y) :
    ∃ Hi', Grow L Hi H Hi' (upd H T (.tup [u, v])) ∧ L.ok (upd H T (.tup [u, v])) ∧ Dq K Hi' (.ref T) (.tuple [x, y]) :=
  ⟨upd Hi T (.tup [u, v]), Grow.laid s hT, L.okNew ok hT, .tup (SqT.of upd_same) (DqAll.upd (s.free hT) (.cons dx (.cons dy .nil)))⟩
theorem it_enumL {p : Addr} {vs : List V} {xs : List PyData} {Hi1 H1 : Hp} (h : Hi1 p = some (.lst vs)) (d : DqAll K Hi1 vs xs) : ItOk K L Hi1 H1 (Ite K p) (enuL 0 xs) where
  go := fun i Hi H s1 s2 _ _ hi => by
    have hl := d.len
    rw [enuL_len] at hi
    exact ⟨vs, vs[i], SqL.of (s2 _ _ (s1 _ _ h)), by simp⟩
  stop := fun i Hi H s1 s2 _ _ hi => ⟨vs, SqL.of (s2 _ _ (s1 _ _ h)), by rw [enuL_len] at hi; rw [d.len]; omega⟩
  yld := fun i Hi H y v H' s1 s2 _ ok hy hv => by
    obtain ⟨T, u, rfl, hT, rfl, hv⟩ := hv
    rw [enuL_get] at hy
    cases q : xs[i]? with
    | none => rw [q] at hy; cases hy
    | some z =>
      rw [q] at hy
      cases hy
      obtain ⟨u', hu, du⟩ := d.get q
      have e := hv vs (SqL.of (s2 _ _ (s1 _ _ h)))
      rw [hu] at e
      cases e
      rw [Nat.zero_add]
      exact pair_ok s2 ok hT (.int _) (Dq.mono s1 _ _ du)
theorem it_enumT {p : Addr} {vs : List V} {xs : List PyData} {Hi1 H1 : Hp} (h : SqT K Hi1 p vs) (d : DqAll K Hi1 vs xs) : ItOk K L Hi1 H1 (IteT K p) (enuL 0 xs) where
  go := fun i Hi H s1 s2 _ _ hi => by
    have hl := d.len
    rw [enuL_len] at hi
    exact ⟨vs, vs[i], sqT_mono s2 (sqT_mono s1 h), by simp⟩
  stop := fun i Hi H s1 s2 _ _ hi => ⟨vs, sqT_mono s2 (sqT_mono s1 h), by rw [enuL_len] at hi; rw [d.len]; omega⟩
  yld := fun i Hi H y v H' s1 s2 _ ok hy hv => by
    obtain ⟨T, u, rfl, hT, rfl, hv⟩ := hv
    rw [enuL_get] at hy
    cases q : xs[i]? with
    | none => rw [q] at hy; cases hy
    | some z =>
      rw [q] at hy
      cases hy
      obtain ⟨u', hu, du⟩ := d.get q
      have e := hv vs (sqT_mono s2 (sqT_mono s1 h))
      rw [hu] at e
      cases e
      rw [Nat.zero_add]
      exact pair_ok s2 ok hT (.int _) (Dq.mono s1 _ _ du)
theorem zipL_get : ∀ (xs ys : List PyData) (i : Nat) (z : PyData), (zipL xs ys)[i]? = some z → ∃ x y, xs[i]? = some x ∧ ys[i]? = some y ∧ z = .tuple [x, y]
  | [], ys, i, z, h => by simp [zipL] at h
  | x :: xs, [], i, z, h => by simp [zipL] at h
  | x :: xs, y :: ys, 0, z, h => by
    simp [zipL] at h
    exact ⟨x, y, rfl, rfl, h.symm⟩
  | x :: xs, y :: ys, i + 1, z, h => by
    rw [zipL, List.getElem?_cons_succ] at h
    obtain ⟨a, b, h1, h2, h3⟩ := zipL_get xs ys i z h
    exact ⟨a, b, by simpa using h1, by simpa using h2, h3⟩
theorem zipL_len : ∀ (xs ys : List PyData), (zipL xs ys).length = min xs.length ys.length
  | [], ys => by simp [zipL]
  | x :: xs, [] => by simp [zipL]
  | x :: xs, y :: ys => by rw [zipL, List.length_cons, zipL_len xs ys, List.length_cons, List.length_cons]; omega
theorem it_zipL {p q : Addr} {vs ws : List V} {xs ys : List PyData} {Hi1 H1 : Hp} (h : Hi1 p = some (.lst vs)) (d : DqAll K Hi1 vs xs) (h' : Hi1 q = some (.lst ws)) (d' : DqAll K Hi1 ws ys) : ItOk K L Hi1 H1 (Itz K p q) (zipL xs ys) where
  go := fun i Hi H s1 s2 _ _ hi => by
    have hl := d.len
    have hl' := d'.len
    rw [zipL_len] at hi
    have i1 : i < vs.length := by omega
    have i2 : i < ws.length := by omega
    exact ⟨vs, ws, vs[i], ws[i], SqL.of (s2 _ _ (s1 _ _ h)), SqL.of (s2 _ _ (s1 _ _ h')), by simp, by simp⟩
  stop := fun i Hi H s1 s2 _ _ hi => by
    have hl := d.len
    have hl' := d'.len
    rw [zipL_len] at hi
    exact ⟨vs, ws, SqL.of (s2 _ _ (s1 _ _ h)), SqL.of (s2 _ _ (s1 _ _ h')), by omega⟩
  yld := fun i Hi H y v H' s1 s2 _ ok hy hv => by
    obtain ⟨T, u, w, rfl, hT, rfl, hv, hw⟩ := hv
    obtain ⟨a, b, ha, hb, rfl⟩ := zipL_get _ _ _ _ hy
    obtain ⟨u', hu, du⟩ := d.get ha
    obtain ⟨w', hw', dw⟩ := d'.get hb
    have e := hv vs (SqL.of (s2 _ _ (s1 _ _ h)))
    have e' := hw ws (SqL.of (s2 _ _ (s1 _ _ h')))
    rw [hu] at e
    rw [hw'] at e'
    cases e
    cases e'
    exact pair_ok s2 ok hT (Dq.mono s1 _ _ du) (Dq.mono s1 _ _ dw)
theorem it_zipT {p q : Addr} {vs ws : List V} {xs ys : List PyData} {Hi1 H1 : Hp} (h : SqT K Hi1 p vs) (d : DqAll K Hi1 vs xs) (h' : SqT K Hi1 q ws) (d' : DqAll K Hi1 ws ys) : ItOk K L Hi1 H1 (RZ.ItzT K p q) (zipL xs ys) where
  go := fun i Hi H s1 s2 _ _ hi => by
    have hl := d.len
    have hl' := d'.len
    rw [zipL_len] at hi
    have i1 : i < vs.length := by omega
    have i2 : i < ws.length := by omega
    exact ⟨vs, ws, vs[i], ws[i], sqT_mono s2 (sqT_mono s1 h), sqT_mono s2 (sqT_mono s1 h'), by simp, by simp⟩
  stop := fun i Hi H s1 s2 _ _ hi => by
    have hl := d.len
    have hl' := d'.len
    rw [zipL_len] at hi
    exact ⟨vs, ws, sqT_mono s2 (sqT_mono s1 h), sqT_mono s2 (sqT_mono s1 h'), by omega⟩
  yld := fun i Hi H y v H' s1 s2 _ ok hy hv => by
    obtain ⟨T, u, w, rfl, hT, rfl, hv, hw⟩ := hv
    obtain ⟨a, b, ha, hb, rfl⟩ := zipL_get _ _ _ _ hy
    obtain ⟨u', hu, du⟩ := d.get ha
    obtain ⟨w', hw', dw⟩ := d'.get hb
    have e := hv vs (sqT_mono s2 (sqT_mono s1 h))
    have e' := hw ws (sqT_mono s2 (sqT_mono s1 h'))
    rw [hu] at e
    rw [hw'] at e'
    cases e
    cases e'
    exact pair_ok s2 ok hT (Dq.mono s1 _ _ du) (Dq.mono s1 _ _ dw)
theorem it_revL {p : Addr} {vs : List V} {xs : List PyData} {Hi1 H1 : Hp} (h : Hi1 p = some (.lst vs)) (d : DqAll K Hi1 vs xs) : ItOk K L Hi1 H1 (Itv K p vs.length) xs.reverse where
  go := fun i Hi H s1 s2 _ _ hi => by
    have hl := d.len
    rw [List.length_reverse] at hi
    have : vs.length - 1 - i < vs.length := by omega
    exact ⟨by omega, vs, vs[vs.length - 1 - i], SqL.of (s2 _ _ (s1 _ _ h)), by simp⟩
  stop := fun i Hi H s1 s2 _ _ hi => by
    rw [List.length_reverse] at hi
    show vs.length ≤ i
    rw [d.len]
    omega
  yld := fun i Hi H y v H' s1 s2 _ ok hy hv => by
    obtain ⟨rfl, hv⟩ := hv
    have hl := d.len
    have hi : i < xs.length := by
      have := (List.getElem?_eq_some_iff.mp hy).1
      simpa using this
    rw [List.getElem?_reverse hi] at hy
    obtain ⟨u, hu, du⟩ := d.get hy
    have e := hv vs (SqL.of (s2 _ _ (s1 _ _ h)))
    rw [hl, hu] at e
    cases e
    exact ⟨Hi, Grow.refl s2, ok, Dq.mono s1 _ _ du⟩
theorem it_revT {p : Addr} {vs : List V} {xs : List PyData} {Hi1 H1 : Hp} (h : SqT K Hi1 p vs) (d : DqAll K Hi1 vs xs) : ItOk K L Hi1 H1 (RT.ItvT K p vs.length) xs.reverse where
  go := fun i Hi H s1 s2 _ _ hi => by
    have hl := d.len
    rw [List.length_reverse] at hi
    have : vs.length - 1 - i < vs.length := by omega
    exact ⟨by omega, vs, vs[vs.length - 1 - i], sqT_mono s2 (sqT_mono s1 h), by simp⟩
  stop := fun i Hi H s1 s2 _ _ hi => by
    rw [List.length_reverse] at hi
    show vs.length ≤ i
    rw [d.len]
    omega
  yld := fun i Hi H y v H' s1 s2 _ ok hy hv => by
    obtain ⟨rfl, hv⟩ := hv
    have hl := d.len
    have hi : i < xs.length := by
      have := (List.getElem?_eq_some_iff.mp hy).1
      simpa using this
    rw [List.getElem?_reverse hi] at hy
    obtain ⟨u, hu, du⟩ := d.get hy
    have e := hv vs (sqT_mono s2 (sqT_mono s1 h))
    rw [hl, hu] at e
    cases e
    exact ⟨Hi, Grow.refl s2, ok, Dq.mono s1 _ _ du⟩
theorem rngL_len (lo c : Int) (n : Nat) : (rngL lo c n).length = n := by simp [rngL]
theorem rngL_get {lo c : Int} {n i : Nat} {y : PyData} (h : (rngL lo c n)[i]? = some y) : y = .int (lo + (i : Int) * c) := by
  have hi : i < n := by
    have := (List.getElem?_eq_some_iff.mp h).1
    rwa [rngL_len] at this
  unfold rngL at h
  rw [List.getElem?_map, List.getElem?_range hi] at h
  cases h
  rfl
theorem it_rng {lo : Int} {n : Nat} {Hi1 H1 : Hp} : ItOk K L Hi1 H1 (Itr lo n) (rngL lo 1 n) where
  go := fun i Hi H s1 s2 _ _ hi => by rw [rngL_len] at hi; exact hi
  stop := fun i Hi H s1 s2 _ _ hi => by rw [rngL_len] at hi; show n ≤ i; omega
  yld := fun i Hi H y v H' s1 s2 _ ok hy hv => by
    obtain ⟨rfl, rfl⟩ := hv
    rw [rngL_get hy, Int.mul_one]
    exact ⟨Hi, Grow.refl s2, ok, .int _⟩
theorem it_rngc {lo c : Int} {n : Nat} {Hi1 H1 : Hp} : ItOk K L Hi1 H1 (Itc lo c n) (rngL lo c n) where
  go := fun i Hi H s1 s2 _ _ hi => by rw [rngL_len] at hi; exact hi
  stop := fun i Hi H s1 s2 _ _ hi => by rw [rngL_len] at hi; show n ≤ i; omega
  yld := fun i Hi H y v H' s1 s2 _ ok hy hv => by
    obtain ⟨rfl, rfl⟩ := hv
    rw [rngL_get hy]
    exact ⟨Hi, Grow.refl s2, ok, .int _⟩

/-! ### the readings of what is walked -/
variable {f g h : List SV → KA → Prop} {R : It → Hp → Prop}
/-- an iterator's word: what it gives is fixed on the way -/
theorem AfterI.use {k : List PyData → Prop} {xs : List PyData} {J : It} (h : AfterI K L Hi H k R) (hk : k xs) (g : Grow L Hi H Hi' H') (ok : L.ok H') (it : ItOk K L Hi' H' J xs) : R J H' := h xs hk J Hi' H' g ok it
theorem rd_seq (hw : tI l x (fun ρ k => f ρ fun a => seqW a k) σ H R) : iSeqA l.K (tV l x f) σ H R := by
  obtain ⟨L, Hi0, B, Hi, ρ, k, s, hf, ha⟩ := hw
  refine ⟨L, Hi0, B, Hi, ρ, _, s, hf, fun p hp v Hi1 H1 g1 ok1 hv => ?_⟩
  obtain ⟨Hi2, a, vs, xs, g2, s2, rfl, d, hk, hh⟩ := hv.seq g1 hp
  rcases hh with hh | hh
  · exact ⟨a, vs, rfl, .inl ⟨SqL.of (g2.sub _ _ hh), ha.use hk g2 ok1 (it_list hh d)⟩⟩
  · exact ⟨a, vs, rfl, .inr ⟨sqT_mono g2.sub hh, ha.use hk g2 ok1 (it_tup hh d)⟩⟩
theorem rd_enu (hw : tI l x (fun ρ k => f ρ fun a => seqW a fun xs => k (enuL 0 xs)) σ H R) : iEnumA l.K (tV l x f) σ H R := by
  obtain ⟨L, Hi0, B, Hi, ρ, k, s, hf, ha⟩ := hw
  refine ⟨L, Hi0, B, Hi, ρ, _, s, hf, fun p hp v Hi1 H1 g1 ok1 hv => ?_⟩
  obtain ⟨Hi2, a, vs, xs, g2, s2, rfl, d, hk, hh⟩ := hv.seq g1 hp
  rcases hh with hh | hh
  · exact ⟨a, vs, rfl, .inl ⟨SqL.of (g2.sub _ _ hh), ha.use hk g2 ok1 (it_enumL hh d)⟩⟩
  · exact ⟨a, vs, rfl, .inr ⟨sqT_mono g2.sub hh, ha.use hk g2 ok1 (it_enumT hh d)⟩⟩
theorem rd_rvd (hw : tI l x (fun ρ k => f ρ fun a => seqW a fun xs => k xs.reverse) σ H R) : RT.iRevA l.K (tV l x f) σ H R := by
  obtain ⟨L, Hi0, B, Hi, ρ, k, s, hf, ha⟩ := hw
  refine ⟨L, Hi0, B, Hi, ρ, _, s, hf, fun p hp v Hi1 H1 g1 ok1 hv => ?_⟩
  obtain ⟨Hi2, a, vs, xs, g2, s2, rfl, d, hk, hh⟩ := hv.seq g1 hp
  rcases hh with hh | hh
  · exact ⟨a, vs, rfl, .inl ⟨SqL.of (g2.sub _ _ hh), ha.use hk g2 ok1 (it_revL hh d)⟩⟩
  · exact ⟨a, vs, rfl, .inr ⟨sqT_mono g2.sub hh, ha.use hk g2 ok1 (it_revT hh d)⟩⟩
theorem rd_zip (hw : tI l x (fun ρ k => f ρ fun a => g ρ fun b => seq2W a b fun xs ys => k (zipL xs ys)) σ H R) : RZ.iZipA l.K (tCons (tV l x f) (tCons (tV l x g) tNil)) σ H R := by
  obtain ⟨L, Hi0, B, Hi, ρ, k, s, hf, ha⟩ := hw
  refine ⟨L, Hi0, B, Hi, ρ, _, s, hf, fun p hp v Hi1 H1 g1 ok1 hv => ?_⟩
  refine ⟨L, Hi0, B, Hi1, ρ, _, s.step g1 ok1, hp, fun q hq u Hi2 H2 g2 ok2 hu => ?_⟩
  obtain ⟨x1, x2, e1, e2, hq⟩ := hq
  have hv' := hv.mono g2 s.hnf s.bnf
  have hu' := hu.early (Hs := H) g1.dom
  have g12 := g1.trans g2
  -- the second is fixed, then the first
  obtain ⟨Hi3, g3, s3, d3, k3⟩ := hu.fix (His := Hi1) g2 e2
  have hv3 : AvOk l.K L B H Hi3 H2 v p := by
    refine hv'.fixed s3 (fun xs a ea ev => ?_) (fun xs a ea ev => ?_)
    · subst ea ev
      have ho : H1 a ≠ none := by
        obtain ⟨b, ws, e, h1, h2, h3, h4⟩ := hv
        cases e
        rw [h3]
        simp
      refine k3 a (hv'.addr rfl rfl) fun hn z => ?_
      cases q with
      | new zs =>
        obtain ⟨b, ws, e, h1, h2, h3, h4⟩ := hu
        rw [e] at z
        cases z
        exact ho h1
      | _ => cases hn
    · subst ea
      cases e1
  obtain ⟨Hi4, g4, s4, d4, k4⟩ := hv3.fix (His := Hi) (g1.trans g3) e1
  have d3' := Dq.mono s4 _ _ d3
  cases x1 with
  | list xs =>
    cases x2 with
    | list ys =>
      cases d4 with
      | lst h1 h2 =>
        cases d3' with
        | lst h3 h5 => exact ⟨_, _, _, _, rfl, .inl ⟨SqL.of (g4.sub _ _ h1), SqL.of (g4.sub _ _ h3), ha.use hq g4 ok2 (it_zipL h1 h2 h3 h5)⟩⟩
    | _ => exact hq.elim
  | tuple xs =>
    cases x2 with
    | tuple ys =>
      cases d4 with
      | tup h1 h2 =>
        cases d3' with
        | tup h3 h5 => exact ⟨_, _, _, _, rfl, .inr ⟨sqT_mono g4.sub h1, sqT_mono g4.sub h3, ha.use hq g4 ok2 (it_zipT h1 h2 h3 h5)⟩⟩
    | _ => exact hq.elim
  | _ => exact hq.elim
theorem AvOk.intW {v : V} {a : AV} {k : Int → Prop} (h : AvOk K L B Hs Hi H v a) (hw : intW a k) : ∃ i, v = .int i ∧ k i := by
  obtain ⟨i, rfl, hk⟩ := hw
  exact ⟨i, h.int rfl, hk⟩
theorem rd_rng1 (hw : tI l x (fun ρ k => f ρ fun p => Un.intW p fun n => RngOk n ∧ k (rngL 0 1 n.toNat)) σ H R) : iRng1 (tCons (tV l x f) tNil) σ H R := by
  obtain ⟨L, Hi0, B, Hi, ρ, k, s, hf, ha⟩ := hw
  refine ⟨L, Hi0, B, Hi, ρ, _, s, hf, fun p hp v Hi1 H1 g1 ok1 hv => ?_⟩
  obtain ⟨i, rfl, hr, hk⟩ := hv.intW hp
  exact ⟨i, rfl, hr.1, hr.2, ha.use hk g1 ok1 it_rng⟩
theorem rd_rng2 (hw : tI l x (fun ρ k => f ρ fun p => g ρ fun q => Un.intW p fun m => Un.intW q fun n => (RngOk m ∧ RngOk n) ∧ k (rngL m 1 (n - m).toNat)) σ H R) : iRng2 (tCons (tV l x f) (tCons (tV l x g) tNil)) σ H R := by
  obtain ⟨L, Hi0, B, Hi, ρ, k, s, hf, ha⟩ := hw
  refine ⟨L, Hi0, B, Hi, ρ, _, s, hf, fun p hp v Hi1 H1 g1 ok1 hv => ?_⟩
  refine ⟨L, Hi0, B, Hi1, ρ, _, s.step g1 ok1, hp, fun q hq u Hi2 H2 g2 ok2 hu => ?_⟩
  obtain ⟨i, rfl, hq⟩ := (hv.mono g2 s.hnf s.bnf).intW hq
  obtain ⟨j, rfl, hr, hk⟩ := hu.intW hq
  exact ⟨i, j, rfl, ⟨hr.1.1, hr.1.2, hr.2.1, hr.2.2⟩, ha.use hk (g1.trans g2) ok2 it_rng⟩
theorem rd_rng3 (hw : tI l x (fun ρ k => f ρ fun p => g ρ fun q => h ρ fun r => Un.intW p fun m => Un.intW q fun n => Un.intW r fun s => ∃ c, L2.RgC m n s c ∧ k (rngL m s c)) σ H R) : iRng3 (tCons (tV l x f) (tCons (tV l x g) (tCons (tV l x h) tNil))) σ H R := by
  obtain ⟨L, Hi0, B, Hi, ρ, k, s, hf, ha⟩ := hw
  refine ⟨L, Hi0, B, Hi, ρ, _, s, hf, fun p hp v Hi1 H1 g1 ok1 hv => ?_⟩
  refine ⟨L, Hi0, B, Hi1, ρ, _, s.step g1 ok1, hp, fun q hq u Hi2 H2 g2 ok2 hu => ?_⟩
  refine ⟨L, Hi0, B, Hi2, ρ, _, (s.step g1 ok1).step g2 ok2, hq, fun r hr w Hi3 H3 g3 ok3 hw => ?_⟩
  obtain ⟨i, rfl, hr⟩ := (hv.mono (g2.trans g3) s.hnf s.bnf).intW hr
  obtain ⟨j, rfl, hr⟩ := (hu.mono g3 (Loc.nofoot ok1) s.bnf).intW hr
  obtain ⟨c, rfl, n, hc, hk⟩ := hw.intW hr
  exact ⟨i, j, c, n, rfl, hc, ha.use hk ((g1.trans g2).trans g3) ok3 it_rngc⟩
end
end Un
end
section
/-! Un: more readings: calls, tests, slices, displays. -/
namespace Un
open PySem PySem.Spec L2
section
variable {l : Lay} {x : KX} {K : PySem.W.Frag} {L : Loc} {B Hs His Hi H Hi' H' : Hp} {σ : L2.St} {ρ : List SV} {f g h : List SV → KA → Prop} {Q : VK}
theorem rd_call1 {w : AV → KA → Prop} (hw : tV l x (fun ρ k => f ρ fun p => w p k) σ H Q) : tCB (rC1 l.K w) (tCons (tV l x f) tNil) σ H Q := by
  obtain ⟨L, Hi0, B, Hi, ρ, k, s, hf, ha⟩ := hw
  refine ⟨L, Hi0, B, Hi, ρ, _, s, hf, fun p hp v Hi1 H1 g1 ok1 hv => ?_⟩
  exact ⟨v, rfl, L, B, H, Hi1, p, k, g1.sub, ok1, g1.dom, hv, hp, ha.later g1 (fun _ e => e)⟩
theorem rd_call2 {w : AV → AV → KA → Prop} (hw : tV l x (fun ρ k => f ρ fun p => g ρ fun q => w p q k) σ H Q) : tCB (rC2 l.K w) (tCons (tV l x f) (tCons (tV l x g) tNil)) σ H Q := by
  obtain ⟨L, Hi0, B, Hi, ρ, k, s, hf, ha⟩ := hw
  refine ⟨L, Hi0, B, Hi, ρ, _, s, hf, fun p hp v Hi1 H1 g1 ok1 hv => ?_⟩
  refine ⟨L, Hi0, B, Hi1, ρ, _, s.step g1 ok1, hp, fun q hq u Hi2 H2 g2 ok2 hu => ?_⟩
  exact ⟨v, u, L, B, H, Hi2, p, q, k, rfl, g2.sub, ok2, fun a e => g1.dom a (g2.dom a e), hv.mono g2 s.hnf s.bnf, hu.early g1.dom, hq, ha.later (g1.trans g2) (fun _ e => e)⟩
theorem rd_call3 {w : AV → AV → AV → KA → Prop} (hw : tV l x (fun ρ k => f ρ fun p => g ρ fun q => h ρ fun r => w p q r k) σ H Q) : tCB (rC3 l.K w) (tCons (tV l x f) (tCons (tV l x g) (tCons (tV l x h) tNil))) σ H Q := by
  obtain ⟨L, Hi0, B, Hi, ρ, k, s, hf, ha⟩ := hw
  refine ⟨L, Hi0, B, Hi, ρ, _, s, hf, fun p hp v Hi1 H1 g1 ok1 hv => ?_⟩
  refine ⟨L, Hi0, B, Hi1, ρ, _, s.step g1 ok1, hp, fun q hq u Hi2 H2 g2 ok2 hu => ?_⟩
  refine ⟨L, Hi0, B, Hi2, ρ, _, (s.step g1 ok1).step g2 ok2, hq, fun r hr w' Hi3 H3 g3 ok3 hw' => ?_⟩
  exact ⟨v, u, w', L, B, H, Hi3, p, q, r, k, rfl, g3.sub, ok3, fun a e => g1.dom a (g2.dom a (g3.dom a e)), (hv.mono g2 s.hnf s.bnf).mono g3 s.hnf s.bnf, (hu.mono g3 (fun p hp => s.hnf p (g1.dom p hp)) s.bnf).early g1.dom, hw'.early (fun a e => g1.dom a (g2.dom a e)), hr, ha.later ((g1.trans g2).trans g3) (fun _ e => e)⟩
theorem rd_sset {w : World} (hw : tV l x (fun ρ k => f ρ fun p => w1 .sset p k) σ H Q) : tCB (rSortedSet w) (tCons (tCB (rSetI l.K w) (tCons (tV l x f) tNil)) tNil) σ H Q := by
  obtain ⟨L, Hi0, B, Hi, ρ, k, s, hf, ha⟩ := hw
  refine ⟨L, Hi0, B, Hi, ρ, _, s, hf, fun p hp v Hi1 H1 g1 ok1 hv => ?_⟩
  obtain ⟨a, ea, hw⟩ := hp
  unfold b1 at hw
  cases a with
  | list ys =>
    obtain ⟨ns, e, hn, hk⟩ := hw
    obtain ⟨a1, vs, rfl, h1, d1⟩ := hv.list g1.sub ea
    obtain rfl := ints_of' d1 e
    refine ⟨a1, ns, rfl, SqL.of h1, Nat.lt_of_lt_of_le (show ns.length + 1 < 100 by omega) (by decide), fun p c hp hc => ⟨p, _, c, rfl, upd_same, by omega, fun ms q hm hmem _ hq => ?_⟩⟩
    have em : ms = srtI ns := asc_one hm (srtI_asc ns) fun j => by rw [hmem j, srtI_mem, decide_eq_true_eq]
    subst em
    have g2 : Grow L Hi H Hi1 (upd H1 p (SetO w p (fun j => decide (j ∈ ns)) c)) := g1.trans (Grow.laid' g1.sub hp)
    exact (ha.later g2 (fun _ e => e)).newL hk g2.sub (L.okNew ok1 hp) g2.dom (dq_ints _) q hq
  | _ => exact hw.elim
theorem rd_is {T : String} {w : AV → KA → Prop} (hw : tV l x (fun ρ k => f ρ fun p => w p k) σ H Q) : tCB (rIs l.K T w) (tCons (tV l x f) (tCons (tC (.ty T)) tNil)) σ H Q := by
  obtain ⟨L, Hi0, B, Hi, ρ, k, s, hf, ha⟩ := hw
  refine ⟨L, Hi0, B, Hi, ρ, _, s, hf, fun p hp v Hi1 H1 g1 ok1 hv => ?_⟩
  exact ⟨v, rfl, L, B, H, Hi1, p, k, g1.sub, ok1, g1.dom, hv, hp, ha.later g1 (fun _ e => e)⟩
theorem rd_nil (hw : tL l x (fun _ k => k []) σ H Q') : tNil σ H Q' := by
  obtain ⟨L, Hi0, B, Hi, ρ, k, s, hf, ha⟩ := hw
  exact ha [] hf [] Hi H (Grow.refl s.r.g.sub) s.r.src .nil
theorem rd_cons {fr : List SV → (List AV → Prop) → Prop} {Q' : List V → Hp → Prop} (hw : tL l x (fun ρ k => f ρ fun p => fr ρ fun ps => k (p :: ps)) σ H Q') : tCons (tV l x f) (tL l x fr) σ H Q' := by
  obtain ⟨L, Hi0, B, Hi, ρ, k, s, hf, ha⟩ := hw
  refine ⟨L, Hi0, B, Hi, ρ, _, s, hf, fun p hp v Hi1 H1 g1 ok1 hv => ?_⟩
  refine ⟨L, Hi0, B, Hi1, ρ, _, s.step g1 ok1, hp, fun ps hps vs Hi2 H2 g2 ok2 hvs => ?_⟩
  refine ha _ hps _ Hi2 H2 (g1.trans g2) ok2 (.cons (hv.mono g2 s.hnf s.bnf) (fun hn i b hb hnb z => ?_) ?_)
  · -- the first was there when the others came
    have hold : ∀ a, v = .ref a → H1 a ≠ none := fun a e => by
      cases p with
      | new xs =>
        obtain ⟨c, ws, e', h1, h2, h3, h4⟩ := hv
        rw [e] at e'
        cases e'
        rw [h3]
        simp
      | _ => cases hn
    have hb' := hvs.get z hb
    cases b with
    | new ys =>
      obtain ⟨c, ws, e', h1, h2, h3, h4⟩ := hb'
      exact hold c e' h1
    | _ => cases hnb
  · have hls : ∀ {vs : List V} {as : List AV}, LsOk l.K L B H1 Hi2 H2 vs as → LsOk l.K L B H Hi2 H2 vs as := fun h => by
      induction h with
      | nil => exact .nil
      | cons h hn _ ih => exact .cons (h.early g1.dom) hn ih
    exact hls hvs
theorem rd_and (hw : tV l x (fun ρ k => f ρ fun p => ∃ c, p = .d (.bool c) ∧ if c = true then g ρ k else k (.d (.bool false))) σ H Q) : tAndV (tV l x f) (tV l x g) σ H Q := by
  obtain ⟨L, Hi0, B, Hi, ρ, k, s, hf, ha⟩ := hw
  refine ⟨L, Hi0, B, Hi, ρ, _, s, hf, fun p hp v Hi1 H1 g1 ok1 hv => ?_⟩
  obtain ⟨c, rfl, hp⟩ := hp
  refine ⟨c, hv.bool rfl, ?_⟩
  cases c with
  | true => exact ⟨L, Hi0, B, Hi1, ρ, _, s.step g1 ok1, hp, ha.later g1 g1.dom⟩
  | false => exact ha _ hp _ _ _ g1 ok1 (.bl _)
theorem rd_or (hw : tV l x (fun ρ k => f ρ fun p => ∃ c, p = .d (.bool c) ∧ if c = true then k (.d (.bool true)) else g ρ k) σ H Q) : tOrV (tV l x f) (tV l x g) σ H Q := by
  obtain ⟨L, Hi0, B, Hi, ρ, k, s, hf, ha⟩ := hw
  refine ⟨L, Hi0, B, Hi, ρ, _, s, hf, fun p hp v Hi1 H1 g1 ok1 hv => ?_⟩
  obtain ⟨c, rfl, hp⟩ := hp
  refine ⟨c, hv.bool rfl, ?_⟩
  cases c with
  | true => exact ha _ hp _ _ _ g1 ok1 (.bl _)
  | false => exact ⟨L, Hi0, B, Hi1, ρ, _, s.step g1 ok1, hp, ha.later g1 g1.dom⟩
theorem rd_not (hw : tV l x (fun ρ k => f ρ fun p => ∃ c, p = .d (.bool c) ∧ k (.d (.bool (!c)))) σ H Q) : tNotV (tV l x f) σ H Q := by
  obtain ⟨L, Hi0, B, Hi, ρ, k, s, hf, ha⟩ := hw
  refine ⟨L, Hi0, B, Hi, ρ, _, s, hf, fun p hp v Hi1 H1 g1 ok1 hv => ?_⟩
  obtain ⟨c, rfl, hp⟩ := hp
  exact ⟨c, hv.bool rfl, ha _ hp _ _ _ g1 ok1 (.bl _)⟩
theorem AfterP.later {α : Type} {k : α → Prop} {Q : α → Hp → Prop} (h : AfterP L Hi H k Q) (g : Grow L Hi H Hi' H') : AfterP L Hi' H' k Q := fun a hk Hi2 H2 g2 ok2 => h a hk Hi2 H2 (g.trans g2) ok2
theorem rd_andT {f g : List SV → (Bool → Prop) → Prop} {Q : Bool → Hp → Prop} (hw : tT l x (fun ρ k => f ρ fun c => if c = true then g ρ k else k false) σ H Q) : tAnd (tT l x f) (tT l x g) σ H Q := by
  obtain ⟨L, Hi0, B, Hi, ρ, k, s, hf, ha⟩ := hw
  refine ⟨L, Hi0, B, Hi, ρ, _, s, hf, fun c hc Hi1 H1 g1 ok1 => ?_⟩
  cases c with
  | true => exact ⟨L, Hi0, B, Hi1, ρ, _, s.step g1 ok1, hc, ha.later g1⟩
  | false => exact ha _ hc _ _ g1 ok1
theorem rd_orT {f g : List SV → (Bool → Prop) → Prop} {Q : Bool → Hp → Prop} (hw : tT l x (fun ρ k => f ρ fun c => if c = true then k true else g ρ k) σ H Q) : tOr (tT l x f) (tT l x g) σ H Q := by
  obtain ⟨L, Hi0, B, Hi, ρ, k, s, hf, ha⟩ := hw
  refine ⟨L, Hi0, B, Hi, ρ, _, s, hf, fun c hc Hi1 H1 g1 ok1 => ?_⟩
  cases c with
  | true => exact ha _ hc _ _ g1 ok1
  | false => exact ⟨L, Hi0, B, Hi1, ρ, _, s.step g1 ok1, hc, ha.later g1⟩
theorem rd_notT {f : List SV → (Bool → Prop) → Prop} {Q : Bool → Hp → Prop} (hw : tT l x (fun ρ k => f ρ fun c => k (!c)) σ H Q) : tNot (tT l x f) σ H Q := by
  obtain ⟨L, Hi0, B, Hi, ρ, k, s, hf, ha⟩ := hw
  exact ⟨L, Hi0, B, Hi, ρ, _, s, hf, fun c hc Hi1 H1 g1 ok1 => ha _ hc _ _ g1 ok1⟩
theorem rd_truth {Q : Bool → Hp → Prop} (hw : tT l x (fun ρ k => f ρ fun a => truthW a k) σ H Q) : tV l x f σ H fun v H' => ∃ b, TruV l.K v H' b ∧ Q b H' := by
  obtain ⟨L, Hi0, B, Hi, ρ, k, s, hf, ha⟩ := hw
  refine ⟨L, Hi0, B, Hi, ρ, _, s, hf, fun p hp v Hi1 H1 g1 ok1 hv => ?_⟩
  obtain ⟨b, hb, hk⟩ := hv.tru g1.sub hp
  exact ⟨b, hb, ha b hk _ _ g1 ok1⟩
theorem rd_if {c : List SV → (Bool → Prop) → Prop} (hw : tV l x (fun ρ k => c ρ fun t => if t = true then f ρ k else g ρ k) σ H Q) : tIf (tT l x c) (tV l x f) (tV l x g) σ H Q := by
  obtain ⟨L, Hi0, B, Hi, ρ, k, s, hf, ha⟩ := hw
  refine ⟨L, Hi0, B, Hi, ρ, _, s, hf, fun t ht Hi1 H1 g1 ok1 => ?_⟩
  cases t with
  | true => exact ⟨L, Hi0, B, Hi1, ρ, _, s.step g1 ok1, ht, ha.later g1 g1.dom⟩
  | false => exact ⟨L, Hi0, B, Hi1, ρ, _, s.step g1 ok1, ht, ha.later g1 g1.dom⟩
theorem rd_tup {fs : List SV → (List AV → Prop) → Prop} (hw : tV l x (fun ρ k => fs ρ fun as => ∃ xs, embs? as = some xs ∧ xs.length ≤ sizeLine ∧ k (.d (.tuple xs))) σ H Q) : tTup (tL l x fs) σ H Q := by
  obtain ⟨L, Hi0, B, Hi, ρ, k, s, hf, ha⟩ := hw
  refine ⟨L, Hi0, B, Hi, ρ, _, s, hf, fun as has vs Hi1 H1 g1 ok1 hvs => ?_⟩
  obtain ⟨xs, e, hz, hk⟩ := has
  obtain ⟨Hi2, g2, s2, d2, _⟩ := hvs.fix (His := Hi) g1 e
  refine ⟨by rw [d2.len]; exact hz, fun p hp => ?_⟩
  exact ha _ hk _ _ _ (g2.trans (Grow.laid g2.sub hp)) (L.okNew ok1 hp) (.tup (SqT.of upd_same) (DqAll.upd (g2.sub.free hp) d2))
theorem rd_lst {fs : List SV → (List AV → Prop) → Prop} (hw : tV l x (fun ρ k => fs ρ fun as => ∃ xs, embs? as = some xs ∧ xs.length ≤ sizeLine ∧ k (.new xs)) σ H Q) : tLst (tL l x fs) σ H Q := by
  obtain ⟨L, Hi0, B, Hi, ρ, k, s, hf, ha⟩ := hw
  refine ⟨L, Hi0, B, Hi, ρ, _, s, hf, fun as has vs Hi1 H1 g1 ok1 hvs => ?_⟩
  obtain ⟨xs, e, hz, hk⟩ := has
  obtain ⟨Hi2, g2, s2, d2, _⟩ := hvs.fix (His := Hi) g1 e
  refine ⟨by rw [d2.len]; exact hz, fun p hp => ?_⟩
  exact ha _ hk _ _ _ (g2.trans (Grow.laid' g2.sub hp)) (L.okNew ok1 hp) ⟨p, vs, rfl, g1.dom p hp, g2.sub.free hp, upd_same, d2⟩
theorem cutI (ns : List Int) (lo hi : Option Int) : cutV (ns.map V.int) lo hi = (Un.cut ns lo hi).map V.int := by
  unfold cutV Un.cut
  rw [List.length_map, ← List.map_drop, ← List.map_take]
theorem rd_scr {i : Nat} (hw : tV l x (fun ρ k => ρ[i]? = some .scr ∧ ∀ ns : List Int, ns.length ≤ 63 → k (.new (ns.map PyData.int))) σ H Q) : tSl (L2.rSlL l.K) (tVar i) tNoPart (tPart (tC (.int 63))) σ H Q := by
  obtain ⟨L, Hi0, B, Hi, ρ, k, s, ⟨e, hf⟩, ha⟩ := hw
  obtain ⟨v, e1, a, ns, rfl, hq⟩ := s.r.slot i _ e
  refine ⟨_, e1, 63, rfl, a, _, rfl, sqL_mono s.r.g.sub hq, ?_⟩
  rw [cutI]
  have hm : (Un.cut ns none (some 63)).length ≤ 63 := by
    unfold Un.cut
    rw [List.length_take, List.length_drop]
    show min (min 63 ns.length - 0) _ ≤ 63
    omega
  exact (ha.later (Grow.refl s.r.g.sub) (fun _ e => e)).newL (hf _ hm) s.r.g.sub s.r.src (fun _ e => e) (dq_ints _)
theorem rd_rev (hw : tV l x (fun ρ k => f ρ fun p => revW p k) σ H Q) : tRevA l.K (tV l x f) σ H Q := by
  obtain ⟨L, Hi0, B, Hi, ρ, k, s, hf, ha⟩ := hw
  refine ⟨L, Hi0, B, Hi, ρ, _, s, hf, fun p hp v Hi1 H1 g1 ok1 hv => ?_⟩
  obtain ⟨d, e, hk⟩ := hp
  cases d with
  | list xs =>
    obtain ⟨a, vs, rfl, h1, d1⟩ := hv.list g1.sub e
    exact ⟨a, vs, rfl, .inl ⟨SqL.of h1, (ha.later g1 (fun _ e => e)).newL hk g1.sub ok1 g1.dom d1.reverse⟩⟩
  | tuple xs =>
    obtain ⟨a, vs, rfl, h0, h1, d1⟩ := hv.tuple g1.sub e
    exact ⟨a, vs, rfl, .inr ⟨h1, (ha.later g1 (fun _ e => e)).newT hk g1.sub ok1 d1.reverse⟩⟩
  | _ => exact hk.elim
/-- a slice -/
def rSlW (K : PySem.W.Frag) : V → Option Int → Option Int → Hp → VK → Prop := fun y lo hi H Q => rW1 K (fun a k => slcW a lo hi k) y H Q
theorem sl_ok {X : Cx} : SlR X (rSlW X.K) := by
  intro pins s σ H y v vl vu lo hi sl Q I rx hsl pl pu h
  exact sl_w lo hi pins s σ H y v vl vu sl Q I rx hsl pl pu h
theorem rd_slc {fl fh : List SV → (Option Int → Prop) → Prop} (hw : tV l x (fun ρ k => f ρ fun p => fl ρ fun lo => fh ρ fun hi => slcW p lo hi k) σ H Q) : tSl (rSlW l.K) (tV l x f) (tO l x fl) (tO l x fh) σ H Q := by
  obtain ⟨L, Hi0, B, Hi, ρ, k, s, hf, ha⟩ := hw
  refine ⟨L, Hi0, B, Hi, ρ, _, s, hf, fun p hp v Hi1 H1 g1 ok1 hv => ?_⟩
  refine ⟨L, Hi0, B, Hi1, ρ, _, s.step g1 ok1, hp, fun lo hlo Hi2 H2 g2 ok2 => ?_⟩
  refine ⟨L, Hi0, B, Hi2, ρ, _, (s.step g1 ok1).step g2 ok2, hlo, fun hi hhi Hi3 H3 g3 ok3 => ?_⟩
  exact ⟨L, B, H, Hi3, p, k, g3.sub, ok3, ((g1.trans g2).trans g3).dom, hv.mono (g2.trans g3) s.hnf s.bnf, hhi, ha.later ((g1.trans g2).trans g3) (fun _ e => e)⟩
theorem rd_none {Q : Option Int → Hp → Prop} (hw : tO l x (fun _ k => k none) σ H Q) : tNoPart σ H Q := by
  obtain ⟨L, Hi0, B, Hi, ρ, k, s, hf, ha⟩ := hw
  exact ha _ hf _ _ (Grow.refl s.r.g.sub) s.r.src
theorem rd_part {Q : Option Int → Hp → Prop} (hw : tO l x (fun ρ k => f ρ fun a => Un.intW a fun n => k (some n)) σ H Q) : tPart (tV l x f) σ H Q := by
  obtain ⟨L, Hi0, B, Hi, ρ, k, s, hf, ha⟩ := hw
  refine ⟨L, Hi0, B, Hi, ρ, _, s, hf, fun p hp v Hi1 H1 g1 ok1 hv => ?_⟩
  obtain ⟨i, rfl, hk⟩ := hv.intW hp
  exact ⟨i, rfl, ha _ hk _ _ g1 ok1⟩
/-- a test for None -/
theorem AvOk.isNon {v : V} {a : AV} {d : PyData} (h : AvOk K L B Hs Hi H v a) (sm : Same Hi H) (e : a.dat? = some d) : decide (v = .non) = (match d with | .none => true | _ => false) := by
  have := h.dq sm e
  cases this <;> simp
theorem rd_isN (hw : tV l x (fun ρ k => f ρ fun p => w1 .isN p k) σ H Q) : tIsN (tV l x f) σ H Q := by
  obtain ⟨L, Hi0, B, Hi, ρ, k, s, hf, ha⟩ := hw
  refine ⟨L, Hi0, B, Hi, ρ, _, s, hf, fun p hp v Hi1 H1 g1 ok1 hv => ?_⟩
  obtain ⟨d, e, hk⟩ := hp
  have q := hv.isNon g1.sub e
  show Q (.bl (decide (v = .non))) H1
  rw [q]
  cases d <;> exact ha _ hk _ _ _ g1 ok1 (.bl _)
theorem rd_notN (hw : tV l x (fun ρ k => f ρ fun p => w1 .notN p k) σ H Q) : tNotN (tV l x f) σ H Q := by
  obtain ⟨L, Hi0, B, Hi, ρ, k, s, hf, ha⟩ := hw
  refine ⟨L, Hi0, B, Hi, ρ, _, s, hf, fun p hp v Hi1 H1 g1 ok1 hv => ?_⟩
  obtain ⟨d, e, hk⟩ := hp
  have q := hv.isNon g1.sub e
  show Q (.bl (!decide (v = .non))) H1
  rw [q]
  cases d <;> exact ha _ hk _ _ _ g1 ok1 (.bl _)
theorem rd_isNT {Q : Bool → Hp → Prop} (hw : tT l x (fun ρ k => f ρ fun p => w1 .isN p fun a => truthW a k) σ H Q) : tB (tIsN (tV l x f)) σ H Q := by
  obtain ⟨L, Hi0, B, Hi, ρ, k, s, hf, ha⟩ := hw
  refine ⟨L, Hi0, B, Hi, ρ, _, s, hf, fun p hp v Hi1 H1 g1 ok1 hv => ?_⟩
  obtain ⟨d, e, hk⟩ := hp
  have q := hv.isNon g1.sub e
  refine ⟨_, rfl, ?_⟩
  rw [q]
  cases d <;> (obtain ⟨y, ey, hy⟩ := hk; cases ey; exact ha _ hy _ _ g1 ok1)
theorem rd_notNT {Q : Bool → Hp → Prop} (hw : tT l x (fun ρ k => f ρ fun p => w1 .notN p fun a => truthW a k) σ H Q) : tB (tNotN (tV l x f)) σ H Q := by
  obtain ⟨L, Hi0, B, Hi, ρ, k, s, hf, ha⟩ := hw
  refine ⟨L, Hi0, B, Hi, ρ, _, s, hf, fun p hp v Hi1 H1 g1 ok1 hv => ?_⟩
  obtain ⟨d, e, hk⟩ := hp
  have q := hv.isNon g1.sub e
  refine ⟨_, rfl, ?_⟩
  rw [q]
  cases d <;> (obtain ⟨y, ey, hy⟩ := hk; cases ey; exact ha _ hy _ _ g1 ok1)
theorem rd_dat {d : PyData} {v : V} (hd : ∀ Hi, Dq l.K Hi v d) (hw : tV l x (fun _ k => k (.d d)) σ H Q) : tC v σ H Q := by
  obtain ⟨L, Hi0, B, Hi, ρ, k, s, hf, ha⟩ := hw
  exact ha _ hf _ _ _ (Grow.refl s.r.g.sub) s.r.src (hd _)
theorem rd_var {i : Nat} (hw : tV l x (fun ρ k => varW ρ i k) σ H Q) : tVar i σ H Q := by
  obtain ⟨L, Hi0, B, Hi, ρ, k, s, hf, ha⟩ := hw
  have hf' : (match ρ[i]? with
    | some (.d x) => k (.d x)
    | some (.own xs) => k (.bor xs)
    | some .src => k .src
    | _ => False) := hf
  split at hf'
  · rename_i y e
    obtain ⟨v, e1, u, rfl, hu⟩ := s.r.slot i _ e
    exact ⟨u, e1, ha _ hf' _ _ _ (Grow.refl s.r.g.sub) s.r.src hu⟩
  · rename_i y e
    obtain ⟨v, e1, a, vs, rfl, hu⟩ := s.r.slot i _ e
    exact ⟨_, e1, ha _ hf' _ _ _ (Grow.refl s.r.g.sub) s.r.src ⟨a, vs, rfl, hu⟩⟩
  · rename_i e
    obtain ⟨v, e1, rfl⟩ := s.r.slot i _ e
    exact ⟨_, e1, ha _ hf' _ _ _ (Grow.refl s.r.g.sub) s.r.src rfl⟩
  · exact hf'.elim
end
end Un
end
section
/-! Un: a def called. -/
namespace Un
open PySem PySem.Spec L2

/-- an argument as it stands at a def's entry -/
def ArgOk (K : PySem.W.Frag) (L : Loc) (Hi : Hp) (v : V) : SV → Prop
  | .d x => Dq K Hi v x
  | .src => v = .ref L.p
  | _ => False
inductive Two {α β : Type} (R : α → β → Prop) : List α → List β → Prop
  | nil : Two R [] []
  | cons {a : α} {b : β} {as : List α} {bs : List β} (h : R a b) (t : Two R as bs) : Two R (a :: as) (b :: bs)
namespace Two
variable {α β : Type} {R S : α → β → Prop}
theorem len : ∀ {as : List α} {bs : List β}, Two R as bs → as.length = bs.length
  | _, _, .nil => rfl
  | _, _, .cons _ t => congrArg Nat.succ (len t)
theorem get : ∀ {as : List α} {bs : List β} {i : Nat} {b : β}, Two R as bs → bs[i]? = some b → ∃ a, as[i]? = some a ∧ R a b
  | _, _, i, b, .nil, e => by simp at e
  | _, _, 0, b, .cons h t, e => by
    simp at e
    subst e
    exact ⟨_, rfl, h⟩
  | _, _, i + 1, b, .cons h t, e => by
    obtain ⟨a, h1, h2⟩ := get (i := i) (b := b) t (by simpa using e)
    exact ⟨a, by simpa using h1, h2⟩
theorem append : ∀ {as as' : List α} {bs bs' : List β}, Two R as bs → Two R as' bs' → Two R (as ++ as') (bs ++ bs')
  | _, _, _, _, .nil, s => s
  | _, _, _, _, .cons h t, s => .cons h (append t s)
theorem imp (h : ∀ a b, R a b → S a b) : ∀ {as : List α} {bs : List β}, Two R as bs → Two S as bs
  | _, _, .nil => .nil
  | _, _, .cons q t => .cons (h _ _ q) (imp h t)
theorem perm {as : List α} {bs : List β} (t : Two R as bs) : ∀ {pm : List Nat} {cs : List β}, permL bs pm = some cs → ∃ ds, permL as pm = some ds ∧ Two R ds cs
  | [], cs, e => by
    cases e
    exact ⟨[], rfl, .nil⟩
  | i :: pm, cs, e => by
    have e' : (match bs[i]?, permL bs pm with
      | some a, some as => some (a :: as)
      | _, _ => none) = some cs := e
    split at e'
    · rename_i b cs' h1 h2
      cases e'
      obtain ⟨a, g1, g2⟩ := t.get h1
      obtain ⟨ds, g3, g4⟩ := perm t h2
      refine ⟨a :: ds, ?_, .cons g2 g4⟩
      show (match as[i]?, permL as pm with
        | some a, some as => some (a :: as)
        | _, _ => none) = _
      rw [g1, g3]
    · cases e'
end Two
theorem permL_len {α : Type} {l : List α} : ∀ {pm : List Nat} {cs : List α}, permL l pm = some cs → cs.length = pm.length
  | [], cs, e => by cases e; rfl
  | i :: pm, cs, e => by
    have e' : (match l[i]?, permL l pm with
      | some a, some as => some (a :: as)
      | _, _ => none) = some cs := e
    split at e'
    · rename_i b cs' h1 h2
      cases e'
      rw [List.length_cons, List.length_cons, permL_len h2]
    · cases e'
/-- the values in the parameters' order -/
def gP {α : Type} (pm : List Nat) (us ws : List α) : List α := (permL (us ++ ws) pm).getD []
theorem vals_two : ∀ {vs : List V} {us : List Value}, Vals vs us → Two RelV vs us
  | _, _, .nil => .nil
  | _, _, .cons r t => .cons r (vals_two t)
theorem two_vals : ∀ {vs : List V} {us : List Value}, Two RelV vs us → Vals vs us
  | _, _, .nil => .nil
  | _, _, .cons r t => .cons r (two_vals t)
theorem permL_none {α β : Type} {l : List α} {m : List β} (h : l.length = m.length) : ∀ {pm : List Nat}, permL m pm = none → permL l pm = none
  | [], e => nomatch e
  | i :: pm, e => by
    have e' : (match m[i]?, permL m pm with
      | some a, some as => some (a :: as)
      | _, _ => none) = none := e
    show (match l[i]?, permL l pm with
      | some a, some as => some (a :: as)
      | _, _ => none) = none
    cases h1 : m[i]? with
    | none =>
      have : l[i]? = none := by
        rw [List.getElem?_eq_none_iff] at h1 ⊢
        omega
      rw [this]
    | some a =>
      rw [h1] at e'
      cases h2 : permL m pm with
      | none =>
        rw [permL_none h h2]
        cases l[i]? <;> rfl
      | some as =>
        rw [h2] at e'
        cases e'
theorem gP_rel (pm : List Nat) {vs : List V} {us : List Value} {zs : List V} {ws : List Value} (r : Vals vs us) (q : Vals zs ws) : Vals (gP pm vs zs) (gP pm us ws) := by
  have t := (vals_two r).append (vals_two q)
  unfold gP
  cases e : permL (us ++ ws) pm with
  | some cs =>
    obtain ⟨ds, e2, t2⟩ := t.perm e
    rw [e2]
    exact two_vals t2
  | none =>
    rw [permL_none t.len e]
    exact .nil

/-- what a def promises, from what it computes: F -/
def spF (l : Lay) (F : List SV → KA → KX → Prop) (n : Nat) : Sp := fun vs H Q E => ∃ L Hi args k x, l.κ L ∧ L.ok H ∧ Same Hi H ∧ (∀ a, L.foot a → Hi a = none) ∧ args.length = n ∧ Two (ArgOk l.K L Hi) vs args ∧ F args k x ∧
  After l.K L H H Hi H k Q ∧ ∀ c fs cls d Hi' H', x c fs → Grow L Hi H Hi' H' → L.ok H' → l.XR c fs cls d Hi' H' → E cls d H'
structure CallOk (P : Program) (w : World) (mg : Str → Option Value) (base : Heap) (l : Lay) (k : Nat) (F : List SV → KA → KX → Prop) (p : Pat) : Prop where
  ex : ∃ (a : Addr) (fd : FuncData) (ps : List Str), mg p.x = some (.ref a) ∧ PySem.W.keepIn l.K (.ref a) = true ∧ ps.length = p.perm.length ∧ KBg l.K fd p.n ps p.ks (gP p.perm) (gP p.perm) ∧ FnG P w l.K mg base k a fd ps (spF l F ps.length)

section
variable {l : Lay} {x : KX} {K : PySem.W.Frag} {L : Loc} {B Hs His Hi H Hi' H' : Hp} {σ : L2.St} {ρ : List SV} {f g h : List SV → KA → Prop} {Q : VK}
theorem Dq.bare_mono {H H' : Hp} (hs : ∀ b o, H b = some o → (∀ ws, o ≠ .lst ws) → H' b = some o) : ∀ (d : PyData) (v : V), bare d = true → Dq K H v d → Dq K H' v d := by
  have main : ∀ d, (∀ v, bare d = true → Dq K H v d → Dq K H' v d) := by
    intro d
    refine PyData.rec (motive_1 := fun d => ∀ v, bare d = true → Dq K H v d → Dq K H' v d) (motive_2 := fun ds => ∀ vs, bareAll ds = true → DqAll K H vs ds → DqAll K H' vs ds) (motive_3 := fun _ => True) (motive_4 := fun _ => True) ?_ ?_ ?_ ?_ ?_ ?_ ?_ ?_ ?_ ?_ ?_ ?_ d
    · intro v _ h; cases h; exact .non
    · intro b v _ h; cases h; exact .bl b
    · intro i v _ h; cases h; exact .int i
    · intro z v _ h; cases h; exact .str z
    · intro xs _ v hb _; simp [bare] at hb
    · intro xs ih v hb h
      cases h with
      | tup h1 h2 =>
        refine .tup ?_ (ih _ (by simpa [bare] using hb) h2)
        rcases h1 with (h1 | ⟨o, h1⟩) | h1
        · exact .inl (.inl (hs _ _ h1 fun _ z => nomatch z))
        · exact .inl (.inr ⟨o, hs _ _ h1 fun _ z => nomatch z⟩)
        · exact .inr h1
    · intro kvs _ v _ h; cases h
    · intro vs _ h; cases h; exact .nil
    · intro d ds ih1 ih2 vs hb h
      cases h with
      | cons h1 h2 =>
        have hb' : bare d = true ∧ bareAll ds = true := by simpa [bareAll] using hb
        exact .cons (ih1 _ hb'.1 h1) (ih2 _ hb'.2 h2)
    · trivial
    · intros; trivial
    · intros; trivial
  exact fun d v => main d v
/-- arguments are fixed; what is newly fixed is a list that was not there at the def's entry -/
theorem args_fix (sm : Same Hi H) (hb : ∀ p, Hs p = none → B p = none) : ∀ {vs : List V} {as : List AV}, Two (AvOk K L B Hs Hi H) vs as → ∃ Hi2, Same Hi Hi2 ∧ Same Hi2 H ∧ Two (ArgOk K L Hi2) vs (as.map argOf) ∧
    ∀ b, Hi2 b ≠ none → Hi b = none → B b = none ∧ (∃ ws, Hi2 b = some (.lst ws)) ∧ (as.any AV.isBor = false → Hs b = none)
  | _, _, .nil => ⟨Hi, Same.refl _, sm, .nil, fun b h1 h2 => absurd h2 h1⟩
  | _, _, .cons (a := v) (b := a) (as := vs) (bs := as) h t => by
    obtain ⟨Hi2, s1, s2, t2, k2⟩ := args_fix sm hb t
    have arg_mono : ∀ {Hi3 : Hp}, Same Hi2 Hi3 → Two (ArgOk K L Hi3) vs (as.map argOf) := fun s => t2.imp fun v a q => by
      cases a with
      | d x => exact Dq.mono s _ _ q
      | src => exact q
      | _ => exact q.elim
    have place : ∀ (p : Addr) (ws : List V) (xs : List PyData), H p = some (.lst ws) → DqAll K Hi ws xs → B p = none → (a.isBor = false → Hs p = none) → v = .ref p → argOf a = .d (.list xs) → ∃ Hi3, Same Hi Hi3 ∧ Same Hi3 H ∧ Two (ArgOk K L Hi3) (v :: vs) ((a :: as).map argOf) ∧
        ∀ b, Hi3 b ≠ none → Hi b = none → B b = none ∧ (∃ ws, Hi3 b = some (.lst ws)) ∧ ((a :: as).any AV.isBor = false → Hs b = none) := fun p ws xs h1 h2 h3 h4 ev ea => by
      have hany : (a :: as).any AV.isBor = false → a.isBor = false ∧ as.any AV.isBor = false := fun z => by
        rw [List.any_cons, Bool.or_eq_false_iff] at z
        exact z
      cases q : Hi2 p with
      | some o =>
        have e : o = .lst ws := by
          have := s2 _ _ q
          rw [h1] at this
          exact (Option.some.inj this).symm
        subst e
        refine ⟨Hi2, s1, s2, .cons ?_ t2, fun b z1 z2 => ?_⟩
        · rw [ea, ev]
          exact .lst q (DqAll.mono s1 _ _ h2)
        · obtain ⟨y1, y2, y3⟩ := k2 b z1 z2
          exact ⟨y1, y2, fun z => y3 (hany z).2⟩
      | none =>
        have up : Same Hi2 (L2.upd Hi2 p (.lst ws)) := fun b u e => by rw [upd_ne (ne_of_none e q)]; exact e
        refine ⟨L2.upd Hi2 p (.lst ws), s1.trans up, fun b u e => ?_, .cons ?_ (arg_mono up), fun b z1 z2 => ?_⟩
        · by_cases eb : b = p
          · rw [eb, upd_same] at e
            rw [eb, h1]
            exact e
          · rw [upd_ne eb] at e
            exact s2 _ _ e
        · rw [ea, ev]
          exact .lst upd_same (DqAll.mono (s1.trans up) _ _ h2)
        · by_cases eb : b = p
          · subst eb
            exact ⟨h3, ⟨ws, upd_same⟩, fun z => h4 (hany z).1⟩
          · rw [upd_ne eb] at z1 ⊢
            obtain ⟨y1, y2, y3⟩ := k2 b z1 z2
            exact ⟨y1, y2, fun z => y3 (hany z).2⟩
    have plain : ArgOk K L Hi2 v (argOf a) → a.isBor = false → ∃ Hi3, Same Hi Hi3 ∧ Same Hi3 H ∧ Two (ArgOk K L Hi3) (v :: vs) ((a :: as).map argOf) ∧
        ∀ b, Hi3 b ≠ none → Hi b = none → B b = none ∧ (∃ ws, Hi3 b = some (.lst ws)) ∧ ((a :: as).any AV.isBor = false → Hs b = none) := fun q hb => ⟨Hi2, s1, s2, .cons q t2, fun b z1 z2 => by
      obtain ⟨y1, y2, y3⟩ := k2 b z1 z2
      refine ⟨y1, y2, fun z => y3 ?_⟩
      rw [List.any_cons, Bool.or_eq_false_iff] at z
      exact z.2⟩
    cases a with
    | d x => exact plain (Dq.mono s1 _ _ h) rfl
    | src => exact plain h rfl
    | new xs =>
      obtain ⟨p, ws, rfl, h1, h2, h3, h4⟩ := h
      exact place p ws xs h3 h4 (hb p h1) (fun _ => h1) rfl rfl
    | bor xs =>
      obtain ⟨p, ws, rfl, h1, h2, h3, h4⟩ := h
      exact place p ws xs h3 h4 h1 (fun z => nomatch z) rfl rfl
theorem LsOk.two : ∀ {vs : List V} {as : List AV}, LsOk K L B Hs Hi H vs as → Two (AvOk K L B Hs Hi H) vs as
  | _, _, .nil => .nil
  | _, _, .cons h _ t => .cons h (LsOk.two t)
/-- f(..) -/
theorem rd_call {fe : FE} {nf n n2 m : Nat} {pm : List Nat} {fs gs : List SV → (List AV → Prop) → Prop} (hm : pm.length = m)
    (hw : tV l x (fun ρ k => fs ρ fun as => as.length = n ∧ gs ρ fun bs => bs.length = n2 ∧ ∃ cs, permL ((as ++ bs).map argOf) pm = some cs ∧ callW fe x nf ((as ++ bs).any AV.isBor) cs k) σ H Q) :
    tCallG (spF l (fe nf) m) n n2 (gP pm) l.W (tL l x fs) (tL l x gs) σ H Q := by
  obtain ⟨L, Hi0, B, Hi, ρ, k, s, hf, ha⟩ := hw
  refine ⟨L, Hi0, B, Hi, ρ, _, s, hf, fun as has vs Hi1 H1 g1 ok1 hvs => ?_⟩
  obtain ⟨hlen, has⟩ := has
  refine ⟨L, Hi0, B, Hi1, ρ, _, s.step g1 ok1, has, fun bs hbs zs Hi2 H2 g2 ok2 hzs => ?_⟩
  obtain ⟨hlen2, cs, hpm, hc⟩ := hbs
  refine ⟨by rw [hvs.len]; exact hlen, by rw [hzs.len]; exact hlen2, ?_⟩
  have g12 := g1.trans g2
  have two : Two (AvOk l.K L B H Hi2 H2) (vs ++ zs) (as ++ bs) := (hvs.two.imp fun v a q => q.mono g2 s.hnf s.bnf).append (hzs.two.imp fun v a q => q.early g1.dom)
  obtain ⟨Hi3, s3, s4, targ, kf⟩ := args_fix g2.sub s.hb two
  obtain ⟨us, eus, tus⟩ := targ.perm hpm
  have egp : gP pm vs zs = us := by
    unfold gP
    rw [eus] <;> rfl
  rw [egp]
  have hfoot : ∀ a, L.foot a → Hi3 a = none := fun a fa => by
    cases q : Hi3 a with
    | none => rfl
    | some o =>
      have hB : B a ≠ none := L.dom B a s.r.srcB fa
      have h2 : Hi2 a = none := ((s.r.g.trans g12).avoid s.r.av0 fun b fb => L.dom B b s.r.srcB fb) a fa
      exact absurd (kf a (by rw [q]; simp) h2).1 hB
  have hargs : cs.length = m := by rw [permL_len hpm, hm]
  cases hb : (as ++ bs).any AV.isBor with
  | false =>
    rw [hb] at hc
    have hc : fe nf cs k x := hc
    have g3 : Grow L Hi H Hi3 H2 := ⟨g12.keep, g12.dom, g12.mono.trans s3, s4, fun b z1 z2 => by
      cases q : Hi2 b with
      | none => exact (kf b z1 q).2.2 hb
      | some o => exact g12.fr b (by rw [q]; simp) z2⟩
    refine ⟨L, Hi3, cs, k, x, s.k, ok2, s4, hfoot, hargs, tus, hc, fun av hk v Hi4 H4 g4 ok4 hv => ?_, fun c fs cls d Hi4 H4 h1 h2 h3 h4 => s.e c fs cls d Hi4 H4 h1 (g3.trans h2) h3 h4⟩
    refine ha av hk v Hi4 H4 (g3.trans g4) ok4 ?_
    cases av with
    | d y => exact hv
    | new ys =>
      obtain ⟨p, ws, rfl, h1, h2⟩ := hv
      exact ⟨p, ws, rfl, g12.dom p h1, h2⟩
    | bor ys =>
      obtain ⟨p, ws, rfl, h1, h2⟩ := hv
      exact ⟨p, ws, rfl, s.hb p (g12.dom p h1), h2⟩
    | src => exact hv
  | true =>
    rw [hb] at hc
    have hc : fe nf cs (fun r => ∃ y, r = .d y ∧ bare y = true ∧ k r) noX := hc
    refine ⟨L, Hi3, cs, _, noX, s.k, ok2, s4, hfoot, hargs, tus, hc, fun av hk v Hi4 H4 g4 ok4 hv => ?_, fun c fs cls d Hi4 H4 h1 h2 h3 h4 => h1.elim⟩
    obtain ⟨y, rfl, hy, hk⟩ := hk
    have hv : Dq l.K Hi4 v y := hv
    have up : ∀ b, Hi2 b = none → ∀ o, Hi3 b = some o → ∃ ws, Hi4 b = some (.lst ws) := fun b z1 o z2 => by
      obtain ⟨_, ⟨ws, e⟩, _⟩ := kf b (by rw [z2]; simp) z1
      exact ⟨ws, g4.mono _ _ e⟩
    let Hm : Hp := fun b => match Hi2 b, Hi3 b with
      | none, some _ => none
      | _, _ => Hi4 b
    have hm1 : ∀ b o, Hi2 b = some o → Hm b = Hi4 b := fun b o e => by
      show (match Hi2 b, Hi3 b with
        | none, some _ => none
        | _, _ => Hi4 b) = _
      rw [e]
    have hm2 : ∀ b, Hi2 b = none → Hi3 b = none → Hm b = Hi4 b := fun b e e' => by
      show (match Hi2 b, Hi3 b with
        | none, some _ => none
        | _, _ => Hi4 b) = _
      rw [e, e']
    have hm3 : ∀ b o, Hi2 b = none → Hi3 b = some o → Hm b = none := fun b o e e' => by
      show (match Hi2 b, Hi3 b with
        | none, some _ => none
        | _, _ => Hi4 b) = _
      rw [e, e']
    have gm1 : Same Hm H4 := fun b o e => by
      cases q : Hi2 b with
      | some o' =>
        rw [hm1 b o' q] at e
        exact g4.sub _ _ e
      | none =>
        cases q3 : Hi3 b with
        | none =>
          rw [hm2 b q q3] at e
          exact g4.sub _ _ e
        | some o' =>
          rw [hm3 b o' q q3] at e
          cases e
    have gm2 : ∀ b, Hm b ≠ none → Hi2 b = none → H2 b = none := fun b z1 z2 => by
      cases q3 : Hi3 b with
      | none =>
        rw [hm2 b z2 q3] at z1
        exact g4.fr b z1 q3
      | some o' => exact absurd (hm3 b o' z2 q3) z1
    have gm : Grow L Hi2 H2 Hm H4 := ⟨g4.keep, g4.dom, fun b o e => by rw [hm1 b o e]; exact (s3.trans g4.mono) _ _ e, gm1, gm2⟩
    refine ha _ hk v Hm H4 (g12.trans gm) ok4 ?_
    refine Dq.bare_mono (fun b o e ho => ?_) y v hy hv
    cases q : Hi2 b with
    | some o' => rw [hm1 b o' q]; exact e
    | none =>
      cases q3 : Hi3 b with
      | none => rw [hm2 b q q3]; exact e
      | some o' =>
        obtain ⟨ws, ew⟩ := up b q o' q3
        rw [ew] at e
        exact absurd (Option.some.inj e).symm (ho ws)
end
end Un
end
section
/-! Un: targets; a comprehension. -/
namespace Un
open PySem PySem.Spec L2
section
variable {l : Lay} {x : KX} {K : PySem.W.Frag} {L : Loc} {Hi0 B Hs His Hi H Hi' H' : Hp} {σ : L2.St} {ρ : List SV} {f g h : List SV → KA → Prop} {Q : VK}
/-- a slot is set to a worth -/
theorem Rel.put (r : Rel K L Hi0 B Hi σ H ρ) {i : Nat} {v : Option V} {q : SV} (h : SvOk K L B Hi H v q) (ha : isOwn q = true → ∀ (j : Nat) p a, j ≠ i → ρ[j]? = some p → isOwn p = true → σ[j]? = some (some (V.ref a)) → v ≠ some (V.ref a)) :
    Rel K L Hi0 B Hi (σ.set i v) H (ρ.set i q) where
  g := r.g
  src := r.src
  srcB := r.srcB
  av0 := r.av0
  len := by rw [List.length_set, List.length_set]; exact r.len
  slot := fun j p e => by
    by_cases hj : i = j
    · subst hj
      by_cases hl : i < ρ.length
      · rw [List.getElem?_set_self hl] at e
        cases e
        exact ⟨v, List.getElem?_set_self (by rw [← r.len]; exact hl), h⟩
      · rw [List.getElem?_eq_none (by simpa using hl)] at e
        cases e
    · rw [List.getElem?_set_ne hj] at e ⊢
      exact r.slot j p e
  apart := fun j k p q' a hjk e1 e2 o1 o2 s1 s2 => by
    by_cases hj : i = j
    · subst hj
      have hk : ¬ i = k := hjk
      rw [List.getElem?_set_ne hk] at e2 s2
      by_cases hl : i < ρ.length
      · rw [List.getElem?_set_self hl] at e1
        cases e1
        rw [List.getElem?_set_self (by rw [← r.len]; exact hl)] at s1
        exact ha o1 k q' a (fun z => hk z.symm) e2 o2 s2 (Option.some.inj s1)
      · rw [List.getElem?_eq_none (by simpa using hl)] at e1
        cases e1
    · rw [List.getElem?_set_ne hj] at e1 s1
      by_cases hk : i = k
      · subst hk
        by_cases hl : i < ρ.length
        · rw [List.getElem?_set_self hl] at e2
          cases e2
          rw [List.getElem?_set_self (by rw [← r.len]; exact hl)] at s2
          exact ha o2 j p a hjk e1 o1 s1 (Option.some.inj s2)
        · rw [List.getElem?_eq_none (by simpa using hl)] at e2
          cases e2
      · rw [List.getElem?_set_ne hk] at e2 s2
        exact r.apart j k p q' a hjk e1 e2 o1 o2 s1 s2
theorem Rel.putD (r : Rel K L Hi0 B Hi σ H ρ) (i : Nat) {v : V} {d : PyData} (h : Dq K Hi v d) : Rel K L Hi0 B Hi (σ.set i (some v)) H (ρ.set i (.d d)) := r.put ⟨v, rfl, h⟩ fun z => nomatch z
theorem Rel.putUn (r : Rel K L Hi0 B Hi σ H ρ) (i : Nat) (v : Option V) : Rel K L Hi0 B Hi (σ.set i v) H (ρ.set i .un) := r.put trivial fun z => nomatch z
theorem Rel.wipe (r : Rel K L Hi0 B Hi σ H ρ) : ∀ own : List Nat, Rel K L Hi0 B Hi (wipe σ own) H (wipeS ρ own)
  | [] => r
  | i :: own => (Rel.wipe r own).putUn i none
/-- several names from several values -/
def gNames : List Nat → TGs
  | [] => gNil
  | i :: is => gCons (gName i) (gNames is)
theorem names_ok : ∀ {is : List Nat} {vs : List V} {xs : List PyData} {σ : L2.St} {ρ ρ1 : List SV} {Qg : L2.St → Hp → Prop}, Rel K L Hi0 B Hi σ H ρ → DqAll K Hi vs xs → setD is xs ρ = some ρ1 →
    (∀ σ1, Rel K L Hi0 B Hi σ1 H ρ1 → (∀ own : List Nat, (∀ i ∈ is, i ∈ own) → wipe σ1 own = wipe σ own) → Qg σ1 H) → vs.length = is.length ∧ gNames is vs σ H Qg
  | [], _, [], σ, ρ, ρ1, Qg, r, d, e, q => by
    cases e
    cases d
    exact ⟨rfl, rfl, q σ r fun _ _ => rfl⟩
  | [], _, _ :: _, _, _, _, _, _, _, e, _ => nomatch e
  | _ :: _, _, [], _, _, _, _, _, _, e, _ => nomatch e
  | i :: is, _, x :: xs, σ, ρ, ρ1, Qg, r, d, e, q => by
    cases d with
    | cons d1 d2 =>
      rename_i v vs
      have e' : setD is xs (ρ.set i (.d x)) = some ρ1 := e
      have h := names_ok (Qg := Qg) (r.putD i d1) d2 e' fun σ1 r1 w1 => q σ1 r1 fun own ho => by
        rw [w1 own fun j hj => ho j (by simp [hj])]
        -- a set slot of one's own is forgotten
        have key : ∀ own : List Nat, i ∈ own → wipe (σ.set i (some v)) own = wipe σ own := fun own => by
          induction own with
          | nil => intro z; cases z
          | cons k own ih =>
            intro hm
            show (wipe (σ.set i (some v)) own).set k none = (wipe σ own).set k none
            by_cases hk : i ∈ own
            · rw [ih hk]
            · have hik : i = k := by
                rcases List.mem_cons.mp hm with z | z
                · exact z
                · exact absurd z hk
              subst hik
              have nc : ∀ own : List Nat, wipe (σ.set i (some v)) own = (wipe σ own).set i ((wipe (σ.set i (some v)) own)[i]?.getD none) ∨ wipe (σ.set i (some v)) own = wipe σ own := fun own => by
                induction own with
                | nil =>
                  left
                  show σ.set i (some v) = σ.set i _
                  by_cases hl : i < σ.length
                  · rw [show wipe (σ.set i (some v)) [] = σ.set i (some v) from rfl, List.getElem?_set_self hl] <;> rfl
                  · rw [List.set_eq_of_length_le (by omega), List.set_eq_of_length_le (by omega)]
                | cons k own ih =>
                  show (wipe (σ.set i (some v)) own).set k none = ((wipe σ own).set k none).set i (((wipe (σ.set i (some v)) own).set k none)[i]?.getD none) ∨ (wipe (σ.set i (some v)) own).set k none = (wipe σ own).set k none
                  by_cases hki : k = i
                  · subst hki
                    right
                    rcases ih with ih | ih
                    · rw [ih, List.set_set]
                    · rw [ih]
                  · rw [List.getElem?_set_ne hki]
                    rcases ih with ih | ih
                    · left
                      conv => lhs; rw [ih]
                      rw [List.set_comm _ _ (Ne.symm hki)]
                    · right
                      rw [ih]
              rcases nc own with z | z
              · rw [z, List.set_set]
              · rw [z]
        exact key own (ho i (by simp))
      exact ⟨by rw [List.length_cons, List.length_cons, h.1], v, vs, rfl, h.2⟩
/-- (a, b, ..) = a tuple or a list of that length -/
def gSq (K : PySem.W.Frag) (n : Nat) (t : TGs) : TG := fun v σ H Q => ∃ a xs, v = .ref a ∧ (SqT K H a xs ∨ SqL K H a xs) ∧ xs.length = n ∧ t xs σ H Q
theorem pg_seq {X : Cx} {pos : Pos} {es : List Expr} {k : Nat} {t : TGs} {n : Nat} (hc : X.calm = true) (h : PGs X es t)
    (hn : (assignEach es X.env).length = n := by rfl) (hst : (assignEach es X.env).findIdx? (·.1) = none := by rfl) : PG X (.Tuple es k pos) (gSq X.K n t) := by
  refine ⟨fun pins s σ H v u Q I r hw => ?_⟩
  obtain ⟨a, xs, e, hq | hq, hl, hw⟩ := hw
  · exact (pg_tup hc h hn hst).run pins s σ H v u Q I r ⟨a, xs, e, hq, hl, hw⟩
  · exact (pg_lst hc h hn hst).run pins s σ H v u Q I r ⟨a, xs, e, hq, hl, hw⟩
def gTg (K : PySem.W.Frag) : Tg → TG
  | .nm i => gName i
  | .tp is => gSq K is.length (gNames is)
def tgIn : Tg → List Nat → Prop
  | .nm i, own => i ∈ own
  | .tp is, own => ∀ i ∈ is, i ∈ own
theorem tg_ok {tg : Tg} {v : V} {y : PyData} {ρ1 : List SV} {Qg : L2.St → Hp → Prop} (r : Rel K L Hi0 B Hi σ H ρ) (d : Dq K Hi v y) (e : tgt tg y ρ = some ρ1)
    (q : ∀ σ1, Rel K L Hi0 B Hi σ1 H ρ1 → (∀ own, tgIn tg own → wipe σ1 own = wipe σ own) → Qg σ1 H) : gTg K tg v σ H Qg := by
  cases tg with
  | nm i =>
    cases e
    refine q _ (r.putD i d) fun own ho => ?_
    have h := names_ok (is := [i]) (vs := [v]) (xs := [y]) (Qg := fun σ1 _ => wipe σ1 own = wipe σ own) r (.cons d .nil) rfl fun σ1 r1 w1 => w1 own fun j hj => by
      obtain rfl : j = i := by simpa using hj
      exact ho
    obtain ⟨_, v', vs', e, h⟩ := h
    cases e
    exact h.2
  | tp is =>
    cases y with
    | tuple xs =>
      have e' : setD is xs ρ = some ρ1 := e
      cases d with
      | tup h1 h2 =>
        obtain ⟨a, b⟩ := names_ok r h2 e' q
        exact ⟨_, _, rfl, .inl (sqT_mono r.g.sub h1), a, b⟩
    | list xs =>
      have e' : setD is xs ρ = some ρ1 := e
      cases d with
      | lst h1 h2 =>
        obtain ⟨a, b⟩ := names_ok r h2 e' q
        exact ⟨_, _, rfl, .inr (SqL.of (r.g.sub _ _ h1)), a, b⟩
    | _ => cases e
/-- a comprehension's tests -/
def tTs (l : Lay) : Option (List SV → (Bool → Prop) → Prop) → TT
  | none => tYes
  | some t => tT l.mute noX t
theorem Stt.mute (r : Rel l.K L Hi0 B Hi σ H ρ) (k : l.κ L) : Stt l.mute noX L Hi0 B Hi σ H ρ := ⟨k, r, fun _ _ _ _ _ _ z => z.elim⟩
theorem rd_lc {wi : List SV → (List PyData → Prop) → Prop} {tg : Tg} {c : Option (List SV → (Bool → Prop) → Prop)} {own : List Nat} (hown : tgIn tg own)
    (hw : tV l x (fun ρ k => wi ρ fun xs => cmpW tg c f (wipeS ρ own) xs [] fun ys => k (.new ys)) σ H Q) : tLc (tI l x wi) (gTg l.K tg) (tTs l c) (tV l.mute noX f) own σ H Q := by
  obtain ⟨L, Hi0, B, Hi, ρ, k, s, hf, ha⟩ := hw
  refine ⟨L, Hi0, B, Hi, ρ, _, s, hf, fun xs hxs J Hi1 H1 g1 ok1 it D hD => ?_⟩
  have hDf : ¬ L.foot D := Loc.nofoot ok1 D hD
  refine ⟨fun i m H' => m = xs.length - i ∧ i ≤ xs.length ∧ ∃ Hi' acc vs, Grow L Hi1 H1 Hi' H' ∧ L.ok H' ∧ H' D = some (.lst vs) ∧ DqAll l.K Hi' vs acc ∧ Hi' D = none ∧ cmpW tg c f (wipeS ρ own) (xs.drop i) acc fun ys => k (.new ys),
    ⟨_, rfl, Nat.zero_le _, Hi1, [], [], Grow.laid' g1.sub hD, L.okNew ok1 hD, upd_same, .nil, g1.sub.free hD, hxs⟩, ?_⟩
  rintro i m H' ⟨rfl, hi, Hi', acc, vs, g2, ok2, hL, dl, hn, hc⟩
  have g12 := g1.trans g2
  rcases Nat.lt_or_ge i xs.length with hlt | hge
  · refine .inr ⟨it.go i Hi' H' g2.mono g2.sub g2.dom ok2 hlt, fun H2 => ∃ Hi2 acc2 vs2, Grow L Hi1 H1 Hi2 H2 ∧ L.ok H2 ∧ H2 D = some (.lst vs2) ∧ DqAll l.K Hi2 vs2 acc2 ∧ Hi2 D = none ∧ cmpW tg c f (wipeS ρ own) (xs.drop (i + 1)) acc2 fun ys => k (.new ys),
      fun H2 h2 => ⟨xs.length - (i + 1), by omega, rfl, hlt, h2⟩, fun y H2 hy => ?_⟩
    have hget : xs[i]? = some xs[i] := List.getElem?_eq_getElem hlt
    obtain ⟨Hi2, g3, ok3, dy⟩ := it.yld i Hi' H' xs[i] y H2 g2.mono g2.sub g2.dom ok2 hget hy
    rw [List.drop_eq_getElem_cons hlt] at hc
    obtain ⟨ρ1, e1, hc⟩ := hc
    have r0 : Rel l.K L Hi0 B Hi2 (wipe σ own) H2 (wipeS ρ own) := (s.r.step (g12.trans g3) ok3).wipe own
    refine tg_ok r0 dy e1 fun σ1 r1 w1 => ⟨?_, ?_⟩
    · rw [w1 own hown]
      -- forgetting twice is forgetting once
      have idem : ∀ own : List Nat, ∀ τ : L2.St, wipe (wipe τ own) own = wipe τ own := fun own => by
        have one : ∀ (own : List Nat) (τ : L2.St) (k : Nat), k ∈ own → (wipe τ own).set k none = wipe τ own := fun own => by
          induction own with
          | nil => intro τ k z; cases z
          | cons j own ih =>
            intro τ k hk
            show ((wipe τ own).set j none).set k none = (wipe τ own).set j none
            by_cases hjk : j = k
            · rw [hjk, List.set_set]
            · have hk' : k ∈ own := by
                rcases List.mem_cons.mp hk with z | z
                · exact absurd z.symm hjk
                · exact z
              rw [List.set_comm _ _ hjk, ih τ k hk']
        intro τ
        have sub : ∀ own' : List Nat, (∀ k ∈ own', k ∈ own) → wipe (wipe τ own) own' = wipe τ own := fun own' => by
          induction own' with
          | nil => intro _; rfl
          | cons k own' ih =>
            intro hs
            show (wipe (wipe τ own) own').set k none = wipe τ own
            rw [ih fun z hz => hs z (by simp [hz])]
            exact one own τ k (hs k (by simp))
        exact sub own fun _ z => z
      exact idem own σ
    · have hD2 : H2 D = some (.lst vs) := g3.keep D _ hL hDf
      have hn2 : Hi2 D = none := by
        cases q : Hi2 D with
        | none => rfl
        | some o =>
          have := g3.fr D (by rw [q]; simp) hn
          rw [hL] at this
          cases this
      have dl2 := DqAll.mono g3.mono _ _ dl
      -- the worth of a turn
      have turn : ∀ Hi3 H3, Grow L Hi2 H2 Hi3 H3 → L.ok H3 → f ρ1 (fun a => ∃ y, a.emb? = some y ∧ acc.length < sizeLine ∧ cmpW tg c f (wipeS ρ own) (xs.drop (i + 1)) (acc ++ [y]) fun ys => k (.new ys)) →
          tV l.mute noX f σ1 H3 fun y H4 => ∃ acc', H4 D = some (.lst acc') ∧ acc'.length < sizeLine ∧ ∃ Hi2 acc2 vs2, Grow L Hi1 H1 Hi2 (L2.upd H4 D (.lst (acc' ++ [y]))) ∧ L.ok (L2.upd H4 D (.lst (acc' ++ [y]))) ∧ (L2.upd H4 D (.lst (acc' ++ [y]))) D = some (.lst vs2) ∧ DqAll l.K Hi2 vs2 acc2 ∧ Hi2 D = none ∧ cmpW tg c f (wipeS ρ own) (xs.drop (i + 1)) acc2 fun ys => k (.new ys) := fun Hi3 H3 g4 ok4 hf => by
        refine ⟨L, Hi0, B, Hi3, ρ1, _, Stt.mute (r1.step g4 ok4) s.k, hf, fun av hav v Hi4 H4 g5 ok5 hv => ?_⟩
        obtain ⟨y, ey, hz, hc'⟩ := hav
        obtain ⟨Hi5, g6, s6, d6, k6⟩ := hv.fix g5 ey
        have hD3 : H3 D = some (.lst vs) := g4.keep D _ hD2 hDf
        have hD4 : H4 D = some (.lst vs) := g5.keep D _ hD3 hDf
        have hn3 : Hi3 D = none := by
          cases q : Hi3 D with
          | none => rfl
          | some o =>
            have := g4.fr D (by rw [q]; simp) hn2
            rw [hD2] at this
            cases this
        have hn4 : Hi4 D = none := by
          cases q : Hi4 D with
          | none => rfl
          | some o =>
            have := g5.fr D (by rw [q]; simp) hn3
            rw [hD3] at this
            cases this
        have hn5 : Hi5 D = none := k6 D hn4 fun hnew z => by
          subst z
          cases av with
          | new zs =>
            obtain ⟨a, ws, e, h1, h2⟩ := hv
            cases e
            rw [hD3] at h1
            cases h1
          | _ => cases hnew
        have gg : Grow L Hi1 H1 Hi5 H4 := (g2.trans (g3.trans g4)).trans g6
        refine ⟨vs, hD4, by rw [dl.len]; exact hz, Hi5, acc ++ [y], vs ++ [v], gg.wrote hD hn5, L.okUpd ok5 hDf, upd_same, (DqAll.mono (g4.mono.trans g6.mono) _ _ dl2).snoc d6, hn5, hc'⟩
      cases c with
      | none =>
        show tV l.mute noX f σ1 H2 _
        exact turn Hi2 H2 (Grow.refl g3.sub) ok3 hc
      | some t =>
        show tT l.mute noX t σ1 H2 _
        refine ⟨L, Hi0, B, Hi2, ρ1, _, Stt.mute r1 s.k, hc, fun b hb Hi3 H3 g4 ok4 => ?_⟩
        cases b with
        | true => exact turn Hi3 H3 g4 ok4 hb
        | false =>
          have hD3 : H3 D = some (.lst vs) := g4.keep D _ hD2 hDf
          have hn3 : Hi3 D = none := by
            cases q : Hi3 D with
            | none => rfl
            | some o =>
              have := g4.fr D (by rw [q]; simp) hn2
              rw [hD2] at this
              cases this
          exact ⟨Hi3, acc, vs, g2.trans (g3.trans g4), ok4, hD3, DqAll.mono g4.mono _ _ dl2, hn3, hb⟩
  · have ei : i = xs.length := by omega
    subst ei
    rw [List.drop_length] at hc
    exact .inl ⟨it.stop _ Hi' H' g2.mono g2.sub g2.dom ok2 rfl, ha _ hc _ Hi' H' g12 ok2 ⟨D, vs, rfl, g1.dom D hD, hn, hL, dl⟩⟩
end
end Un
end
section
/-! Un: an error of one's own, made by a call without arguments, its __init__ calling super().__init__(a text). -/
namespace Un
open PySem PySem.Spec PyProof.Rows L2

theorem eval_sup (env : Env) (p0 p1 p2 p3 p4 : Pos) (z : Str) (j : Nat) (h : p2.endLine = p4.line) : eval (.Call (.Attribute (.Call (.Name "super" p0) [] [] p1) "__init__" p2) [.Constant (.str z) j p3] [] p4) env = (do
      let ov ← attributeBase (.Call (.Name "super" p0) [] [] p1) "__init__" env (eval (.Call (.Name "super" p0) [] [] p1) env)
      standAt p2.atName
      let (f, first) ← holding [ov] (getMethod ov "__init__" (do return (← importBound (.Call (.Name "super" p0) [] [] p1) env).getD true))
      callWith p4 f first (backTo p4 (starEach [.Constant (.str z) j p3] env)) []) := by
  show (do
      let ov ← attributeBase (.Call (.Name "super" p0) [] [] p1) "__init__" env (eval (.Call (.Name "super" p0) [] [] p1) env)
      standAt p2.atName
      methodCall (.Call (.Name "super" p0) [] [] p1) "__init__" p2 p4 env ov 1 (backTo p4 (starEach [.Constant (.str z) j p3] env)) []) = _
  have e : ∀ ov, methodCall (.Call (.Name "super" p0) [] [] p1) "__init__" p2 p4 env ov 1 (backTo p4 (starEach [.Constant (.str z) j p3] env)) [] = (do
      let (f, first) ← holding [ov] (getMethod ov "__init__" (do return (← importBound (.Call (.Name "super" p0) [] [] p1) env).getD true))
      callWith p4 f first (backTo p4 (starEach [.Constant (.str z) j p3] env)) []) := fun ov => by
    have hf : methodCallForm 1 (backTo p4 (starEach [.Constant (.str z) j p3] env)) [] = true := rfl
    have hp : methodCallPos true (.Call (.Name "super" p0) [] [] p1) env p2 p4 = pure p4 := by
      unfold methodCallPos
      rw [if_pos (by simp [h])]
    unfold methodCall calleeOf
    rw [hf, hp]
    rfl
  simp only [e]

def supScope : Scope := ⟨.function, [("self", .local), ("__class__", .free), ("super", .globalImplicit)], false, false, []⟩
/-- the text of such an __init__: its name within, its cell, its code -/
def supFD (fd : FuncData) : Option (Str × Addr × Addr) :=
  match fd.params, fd.body, fd.closure, fd.defaults, fd.code with
  | ⟨[], [⟨a, none, _⟩], none, [], [], none, []⟩, .stmts [.Expr (.Call (.Attribute (.Call (.Name sn _) [] [] _) an ap) [.Constant (.str _) _ _] [] cp) _], [(cn, cc)], .none, .ref cda =>
    if a = ("self" : Str) ∧ sn = ("super" : Str) ∧ an = ("__init__" : Str) ∧ ap.endLine = cp.line ∧ cn = ("__class__" : Str) ∧ fd.scope = supScope ∧ fd.globals = mainGlobals ∧ fd.builtins = builtinsNs then some (fd.qualname, cc, cda) else none
  | _, _, _, _, _ => none
theorem supFD_ok {fd : FuncData} {q : Str} {cc cda : Addr} (h : supFD fd = some (q, cc, cda)) :
    ∃ (name : Str) (pa p0 p1 p2 p3 p4 p5 : Pos) (z : Str) (j : Nat) (kV doc pm : Value) (an : Option Addr) (ct : Value), p2.endLine = p4.line ∧
      fd = PySem.W.ksFn name q ⟨[], [⟨"self", none, pa⟩], none, [], [], none, []⟩ [.Expr (.Call (.Attribute (.Call (.Name "super" p0) [] [] p1) "__init__" p2) [.Constant (.str z) j p3] [] p4) p5] supScope .none kV doc pm an (.ref cda) ct cc := by
  obtain ⟨name, qual, params, body, scope, globals, closure, defaults, kwdefaults, doc, pm, an, code, ct, bl⟩ := fd
  unfold supFD at h
  dsimp only at h
  split at h
  · split at h
    · rename_i hh
      obtain ⟨rfl, rfl, rfl, hp, rfl, rfl, rfl, rfl⟩ := hh
      cases h
      exact ⟨_, _, _, _, _, _, _, _, _, _, _, _, _, _, _, hp, rfl⟩
    · cases h
  · cases h
def fileIn (K : PySem.W.Frag) (c : Addr) (file : Str) : Bool :=
  match K.lookup c with
  | some ⟨_, _, .fields vs, _⟩ => (match (vs[2]? : Option Value) with
    | some (.str z _) => file == z
    | _ => false)
  | _ => false
theorem fileIn_ok {K : PySem.W.Frag} {c : Addr} {file : Str} (h : fileIn K c file = true) : ∃ a b vs sl z t, K.lookup c = some ⟨a, b, .fields vs, sl⟩ ∧ vs[2]? = some (.str z t) ∧ (file == z) = true := by
  unfold fileIn at h
  split at h
  · rename_i hk
    split at h
    · rename_i hv
      exact ⟨_, _, _, _, _, _, hk, hv, h⟩
    · cases h
  · cases h
def cellIn (K : PySem.W.Frag) (c C : Addr) : Bool :=
  match K.lookup c with
  | some ⟨_, _, .cell (some (.ref D)), _⟩ => decide (D = C)
  | _ => false
theorem cellIn_ok {K : PySem.W.Frag} {c C : Addr} (h : cellIn K c C = true) : ∃ a b sl, K.lookup c = some ⟨a, b, .cell (some (.ref C)), sl⟩ := by
  unfold cellIn at h
  split at h
  · rename_i hk
    obtain rfl := of_decide_eq_true h
    exact ⟨_, _, _, hk⟩
  · cases h
/-- what the written part says of the class at C -/
def supB (P : Program) (K : PySem.W.Frag) (C : Addr) : Bool :=
  match PySem.W.findIn K (.ref C) "__init__" with
  | some (some (.ref fI)) => (match K.lookup fI with
    | some ⟨_, _, .func fd, _⟩ => (match supFD fd with
      | some (q, cc, cda) => PySem.W.codeIn K (.ref cda) q && fileIn K cda P.main.file && cellIn K cc C && decide (PySem.W.typeIn K (.ref fI) = some (.type "function"))
      | none => false)
    | _ => false)
  | _ => false
def supOk (P : Program) (K : PySem.W.Frag) (C : Addr) : Bool := supB P K C && (PySem.W.excInitIn K C He.veBase "ValueError.__new__" && (decide (PySem.W.ks_superIn K C C "__init__" = some (some (.builtin "ValueError.__init__"))) &&
  (decide (PySem.W.mroIn K C (.ref C) = some true) && (decide (PySem.W.subIn K (.ref C) (.type "ValueError") = some true) && (decide (PySem.W.nsIn K cStatics "thirdparty.any" = some none) && ((P.main.scope.names.lookup ("super" : Str)).isNone &&
  (PySem.W.keepIn K (.ref C) && (decide (PySem.W.subIn K (.ref C) (.type "BaseException") = some true) && decide (PySem.W.typeIn K (.ref C) = some (.type "type"))))))))))
structure SupC (P : Program) (K : PySem.W.Frag) (C : Addr) : Prop where
  ini : ∃ (fI : Addr) (oc : Value) (od : Option Addr) (osl : Array (Option Value)) (cc cda : Addr) (name q : Str) (pa p0 p1 p2 p3 p4 p5 : Pos) (z : Str) (j : Nat) (kV doc pm : Value) (an : Option Addr) (ct : Value),
    p2.endLine = p4.line ∧ PySem.W.findIn K (.ref C) "__init__" = some (some (.ref fI)) ∧ PySem.W.typeIn K (.ref fI) = some (.type "function") ∧ PySem.W.codeIn K (.ref cda) q = true ∧ fileIn K cda P.main.file = true ∧ cellIn K cc C = true ∧
    K.lookup fI = some ⟨oc, od, .func (PySem.W.ksFn name q ⟨[], [⟨"self", none, pa⟩], none, [], [], none, []⟩ [.Expr (.Call (.Attribute (.Call (.Name "super" p0) [] [] p1) "__init__" p2) [.Constant (.str z) j p3] [] p4) p5] supScope .none kV doc pm an (.ref cda) ct cc), osl⟩
  exc : PySem.W.excInitIn K C He.veBase "ValueError.__new__" = true
  sup : PySem.W.ks_superIn K C C "__init__" = some (some (.builtin "ValueError.__init__"))
  own : PySem.W.mroIn K C (.ref C) = some true
  ve : PySem.W.subIn K (.ref C) (.type "ValueError") = some true
  third : PySem.W.nsIn K cStatics "thirdparty.any" = some none
  top : (P.main.scope.names.lookup ("super" : Str)).isSome = false
  kC : PySem.W.keepIn K (.ref C) = true
  exC : PySem.W.subIn K (.ref C) (.type "BaseException") = some true
  tyC : PySem.W.typeIn K (.ref C) = some (.type "type")
theorem supC_of {P : Program} {K : PySem.W.Frag} {C : Addr} (h : supOk P K C = true) : SupC P K C := by
  unfold supOk at h
  obtain ⟨h0, h⟩ := He.ba h
  obtain ⟨h1, h⟩ := He.ba h
  obtain ⟨h2, h⟩ := He.ba h
  obtain ⟨h3, h⟩ := He.ba h
  obtain ⟨h4, h⟩ := He.ba h
  obtain ⟨h5, h⟩ := He.ba h
  obtain ⟨h6, h⟩ := He.ba h
  obtain ⟨h7, h⟩ := He.ba h
  obtain ⟨h8, h9⟩ := He.ba h
  refine ⟨?_, h1, of_decide_eq_true h2, of_decide_eq_true h3, of_decide_eq_true h4, of_decide_eq_true h5, by rw [Option.isNone_iff_eq_none.mp h6] <;> rfl, h7, of_decide_eq_true h8, of_decide_eq_true h9⟩
  unfold supB at h0
  split at h0
  · rename_i fI e1
    split at h0
    · rename_i oc od fd osl e2
      split at h0
      · rename_i q cc cda e3
        obtain ⟨h0, g4⟩ := He.ba h0
        obtain ⟨h0, g3⟩ := He.ba h0
        obtain ⟨g1, g2⟩ := He.ba h0
        obtain ⟨name, pa, p0, p1, p2, p3, p4, p5, z, j, kV, doc, pm, an, ct, hp, rfl⟩ := supFD_ok e3
        exact ⟨fI, oc, od, osl, cc, cda, name, q, pa, p0, p1, p2, p3, p4, p5, z, j, kV, doc, pm, an, ct, hp, e1, of_decide_eq_true g4, g1, g2, g3, e2⟩
      · cases h0
    · cases h0
  · cases h0

section
variable {P : Program} {w : World} {A : Around} {K : PySem.W.Frag} {s : Shared} {h₀ : Heap} {C x t0 : Addr} {R : Result → Shared → Prop} {mg : Str → Option Value}
/-- self's __init__ runs: the args are laid anew -/
theorem sup_run (S : SupC P K C) (X : K.In h₀) (up : ∀ b o, h₀.get? b = some o → s.heap.get? b = some o) (hx : s.heap.get? x = some (PySem.HandSPX.excO C t0)) (nx : h₀.get? x = none) (ab : h₀.objs.size ≤ s.heap.objs.size)
    (hroom : A.depth < recursionLimit) (hlim : s.heap.NoLimit) (G : h₀.Ns mainGlobals mg) (hB : ∃ mb, h₀.Ns builtinsNs mb ∧ ∀ x : Str, x ≠ "__name__" → mb x = bootBuiltins x) (hs : mg "super" = none)
    (hq : ∀ h' tk t1, (∀ b o, h₀.get? b = some o → h'.get? b = some o) → h'.get? x = some (PySem.HandSPX.excO C t1) → R (.ok (.ret .none)) { s with heap := h', toks := tk }) :
    ∃ fI, PySem.W.findIn K (.ref C) "__init__" = some (some (.ref fI)) ∧ PySem.W.typeIn K (.ref fI) = some (.type "function") ∧ codeAny (model P w) A (.call (.ref fI) ⟨[.ref x], []⟩) R s := by
  obtain ⟨fI, oc, od, osl, cc, cda, name, q, pa, p0, p1, p2, p3, p4, p5, z, j, kV, doc, pm, an, ct, hp, e1, e2, e3, e4, e5, e6⟩ := S.ini
  refine ⟨fI, e1, e2, ?_⟩
  obtain ⟨mb, hb1, hb2⟩ := hB
  have Xs : K.In s.heap := X.keeps up
  obtain ⟨ca, cb, cvs, csl, cz, ctk, ck, cv, cf⟩ := fileIn_ok e4
  obtain ⟨la, lb, lsl, lk⟩ := cellIn_ok e5
  refine ks_codeAny_call_defAt (binds := [("self", .ref x)]) hroom (Xs _ _ e6) rfl hlim (PySem.W.codeRec_of Xs e3) rfl (.of_eq rfl) (show ∀ x ∈ supScope.names, x.2 ≠ .cell by decide) (fun y hy => by rw [List.mem_singleton] at hy; subst hy; rfl) (fun h₁ hns kp => ?_)
  have up1 : ∀ b o, h₀.get? b = some o → h₁.get? b = some o := fun b o e => kp b o (up b o e)
  have X1 : K.In h₁ := X.keeps up1
  have F1 : Fr h₀ s.heap.objs.size h₁ _ := ⟨hns, up1, ab⟩
  have hxL : x ≠ s.heap.objs.size := Nat.ne_of_lt (Heap.lt_size hx)
  have N1 : News h₀ s.heap.objs.size h₁ [(x, PySem.HandSPX.excO C t0)] := fun p hp => by
    rw [List.mem_singleton] at hp
    subst hp
    exact ⟨kp _ _ hx, hxL, nx⟩
  obtain ⟨hh, g, d, tk, os⟩ := s
  cases hc : PySem.W.clsIn K C with
  | none =>
    have e := S.sup
    unfold PySem.W.ks_superIn at e
    rw [hc] at e
    cases e
  | some cd =>
  have hsup := S.sup
  unfold PySem.W.ks_superIn at hsup
  rw [hc] at hsup
  obtain ⟨oD, hD1, hD2⟩ : ∃ oD, h₁.get? C = some oD ∧ oD.data = .cls cd := by
    unfold PySem.W.clsIn at hc
    split at hc
    · rename_i c d cd' sl ho
      cases hc
      exact ⟨_, X1 _ _ ho, rfl⟩
    · cases hc
  have lb : (fun y : Str => List.lookup y ([(("self" : Str), Value.ref x)].reverse)) ("self" : Str) = some (.ref x) := rfl
  refine ks_wpAt_execs_cons (ks_wpAt_Expr_any (ks_wpAt_MethodCall ?_ (eval_sup _ p0 p1 p2 p3 p4 z j hp)))
  refine ks_wpAt_super_base (cc := cda) (f := fI) rfl rfl (by decide) rfl (X1 _ _ e6) rfl rfl rfl (X1 _ _ ck) rfl cv cf S.top ?_
  refine PySem.W.ks_loadName_global rfl rfl (Calls.loadGlobal_builtin (G.keeps up1) hs (hb1.keeps up1) ((hb2 _ (by decide)).trans (by rfl)) ⟨rfl, ?_⟩)
  refine wpAny_loadName_free rfl rfl rfl ⟨_, X1 _ _ lk, rfl⟩ ?_
  refine wpAny_loadName_local (m := fun y => List.lookup y ([(("self" : Str), Value.ref x)].reverse)) rfl rfl hns rfl ?_
  refine ks_wpAny_isType_cls hD1 hD2 ⟨rfl, ?_⟩
  refine ks_wpAny_call_super hD1 hD2 (N1 _ (List.mem_singleton.mpr rfl)).1 rfl (fun c e => nomatch e) (PySem.W.looks_mroIn X1 S.own) (fun h2 hso k2 => ?_)
  have X2 : K.In h2 := X1.keeps k2
  have x2 : h2.get? x = some (PySem.HandSPX.excO C t0) := k2 _ _ (N1 _ (List.mem_singleton.mpr rfl)).1
  have hC2 : h2.get? C = some oD := k2 _ _ hD1
  have hxC : x ≠ C := fun z => by
    rw [z] at x2
    rw [x2] at hC2
    cases hC2
    cases hD2
  have LC : PySem.W.Looks (model P w) h2 (mroOf (.ref C)) cd.mro := fun A Q E s k q => wpAny_bind ((PySem.W.looks_clsIn X2 hc) A _ E s k (wpAny_pure q))
  have LI : PySem.W.Looks (model P w) h2 (isInstance (.ref x) (.type "ValueError")) true := (PySem.W.InstAt.type (C := C) (od := none) ⟨x2, rfl, rfl, trivial⟩).andThen (PySem.W.looks_subIn X2 S.ve)
  refine PySem.W.kxs_getMethod PySem.W.kxs_ValueError hso (PySem.W.looks_opaque X2 S.third) LC rfl X2 hsup LI hxC (by decide) ?_
  have k3 : ∀ b o, h2.get? b = some o → (h2.push (PySem.W.kxs_mw "ValueError.__init__" x)).get? b = some o := fun b o e => Heap.get?_push_of_some _ e
  have F3 : Fr h₀ hh.objs.size (h2.push (PySem.W.kxs_mw "ValueError.__init__" x)) (fun y => List.lookup y ([(("self" : Str), Value.ref x)].reverse)) := by
    obtain ⟨oL, es, ep, hL, r⟩ := F1.ns
    exact ⟨⟨oL, es, ep, k3 _ _ (k2 _ _ hL), r⟩, fun b o e => k3 _ _ (k2 _ _ (up1 b o e)), ab⟩
  have N3 : News h₀ hh.objs.size (h2.push (PySem.W.kxs_mw "ValueError.__init__" x)) [(h2.objs.size, PySem.W.kxs_mw "ValueError.__init__" x), (x, PySem.HandSPX.excO C t0)] := fun p hp => by
    rcases List.mem_cons.mp hp with e | hp
    · subst e
      refine ⟨Heap.get?_push_at rfl rfl, fun z => ?_, ?_⟩
      · obtain ⟨oL, es, ep, hL, r⟩ := F1.ns
        have := Heap.lt_size (k2 _ _ hL)
        exact absurd z (Nat.ne_of_gt this)
      · cases q : h₀.get? h2.objs.size with
        | none => rfl
        | some o =>
          have := Heap.lt_size (k2 _ _ (up1 _ _ q))
          exact absurd this (Nat.lt_irrefl _)
    · rw [List.mem_singleton] at hp
      subst hp
      exact ⟨k3 _ _ x2, hxL, nx⟩
  refine PySem.W.kxs_callWith1 N3 (List.mem_cons_self ..) ?_
  refine Calls.spliced_cons (Calls.Constant_str (k := j) (pos := p3) (Calls.spliced_nil ⟨PySem.W.kxs_at N3 (List.mem_cons_self ..), ?_⟩))
  have hne : h2.objs.size ≠ x := Nat.ne_of_gt (Heap.lt_size x2)
  refine PySem.W.kxs_call (t := t0) (dv := none) (c2 := .none) (nw := fun o => [(h2.objs.size, PySem.W.kxs_mw "ValueError.__init__" x), (x, o)]) F3 X N3 PySem.F.excBase_ValueError S.exc (List.mem_cons_self ..) ?_ (by rw [List.length_singleton, sizeLine_eq]; decide) (fun t' h' F' N' _ => ?_)
  · exact .tail hne (.head fun _ z => nomatch z)
  · have e := (N' (x, PySem.HandSPX.excO C t') (by simp)).1
    exact wpAt_of_wpAny (wpAny_execs_nil (hq h' _ t' F'.keep e))
end
section
variable {X : Cx} {x : Str} {C : Addr} {p pos : Pos} {k : Nat}
/-- C(): nothing but an exception is new -/
theorem pmk_sup (S : SupC X.prog X.K C) (hr : Room (k + 1) X.A) (hg : Gl X x) (hm : X.mg x = some (.ref C)) (hs : X.mg "super" = none) (hdb : (x == ("__debug__" : Str)) = false) :
    PMk X (.Call (.Name x p) [] [] pos) (fun _ H Q => Q (.ref C) none H) := by
  intro pins s σ H Q I h
  obtain ⟨nm, N, q, bs, bm, hd, sn, sub, ab, col, dd, k0, k1, k2, k3, k5, hC, hT⟩ := PySem.W.excInit_of I.kIn S.exc
  refine wpAny_Call_Name_kw (ld_glob I hg hm ?_ hdb)
  refine PySem.W.callWith_K0 I.kIn S.kC ?_
  show wpAny _ _ (call (.ref C) []) _ _ _
  obtain ⟨hp, g, dr, tk, os⟩ := s
  have kk : ∀ b o, hp.get? b = some o → ((hp.push (PySem.W.kdv_tup [])).push (PySem.HandSPX.excO C hp.objs.size)).get? b = some o := fun b o e => Heap.get?_push_of_some _ (Heap.get?_push_of_some _ e)
  have hget : ((hp.push (PySem.W.kdv_tup [])).push (PySem.HandSPX.excO C hp.objs.size)).get? (hp.objs.size + 1) = some (PySem.HandSPX.excO C hp.objs.size) := by heap_get
  have hno : hp.get? (hp.objs.size + 1) = none := by
    cases q : hp.get? (hp.objs.size + 1) with
    | none => rfl
    | some o => exact absurd (Heap.lt_size q) (Nat.not_lt.mpr (Nat.le_succ _))
  have hlt : hp.objs.size ≤ ((hp.push (PySem.W.kdv_tup [])).push (PySem.HandSPX.excO C hp.objs.size)).objs.size := by
    rw [Heap.size_push, Heap.size_push]
    omega
  have main := sup_run (w := X.w) (A := X.A.under (.builtin "type.__call__" ⟨.ref C :: [], []⟩)) (h₀ := hp) (x := hp.objs.size + 1) (t0 := hp.objs.size) (mg := X.mg)
    (s := ⟨(hp.push (PySem.W.kdv_tup [])).push (PySem.HandSPX.excO C hp.objs.size), g, dr, tk, os⟩) (R := PySem.W.InitBack (hp.objs.size + 1) fun r s' => match r with
      | .ok (.ret u) => MkP X pins σ Q u s'
      | .ok _ => False
      | .error e => X.xe e s') S I.kIn kk hget hno hlt (hr.make C [] []).depth (I.nolimit.keeps kk) (I.mod.glob.keeps I.bk) ?_ hs fun h' tk' t1 up e => ⟨rfl, ?_⟩
  · obtain ⟨fI, e1, e2, hrun⟩ := main
    refine wpAny_call (codeAny_mono (PySem.HandSPX.call_own PySem.F.excBase_ValueError hT hC (PySem.W.looks_findIn I.kIn e1) (fun self => PySem.W.bind_fn I.kIn self e2) (by rw [sizeLine_eq]; decide) hrun) fun r s' z => ?_)
    cases r with
    | error e => exact z
    | ok fl =>
      cases fl with
      | ret u => exact z
      | next => exact False.elim z
      | brk => exact False.elim z
      | cont => exact False.elim z
  · obtain ⟨mb, h1, h2⟩ := I.mod.blt
    exact ⟨mb, h1.keeps I.bk, h2⟩
  · exact ⟨hp.objs.size + 1, _, _, ⟨hp, g, dr, tk, os⟩, H, .ref C, none, rfl, I, up, hno, e, ⟨rfl, rfl⟩, rfl, rfl, I.hok.fresh (Nat.le_succ _), rfl, I.bare, raises_own S.exC S.tyC, h⟩
end

/-- the errors that a text names: how each is made, how each is known -/
structure Errs (P : Program) (K : PySem.W.Frag) (mg : Str → Option Value) (l : Lay) (es : List (Str × Nat)) : Prop where
  sup : es ≠ [] → mg "super" = none
  ve : es ≠ [] → mg "ValueError" = none
  cls : ∀ e ∈ es, ∃ C, mg e.1 = some (.ref C)
  mkr : ∀ e ∈ es, 0 < e.2 → e.2 < 500 → ∃ C, mg e.1 = some (.ref C) ∧ SupC P K C ∧ ∀ Hi H, l.XR e.2 [] (.ref C) none Hi H
  got : ∀ c fs cls d Hi H, l.XR c fs cls d Hi H → fs = [] ∧ d = none ∧ ∃ C, cls = .ref C ∧ ExcC K C ∧ PySem.W.kitOne K (.ref C) (.type "ValueError") = some true ∧
    ∀ e ∈ es, ∀ D, mg e.1 = some (.ref D) → PySem.W.exmOne K (.ref C) (.ref D) = some (hitE c e.2) ∧ PySem.W.kitOne K (.ref C) (.ref D) = some (hitE c e.2)
theorem errs_none {P : Program} {K : PySem.W.Frag} {mg : Str → Option Value} {l : Lay} (h : ∀ c fs cls d Hi H, ¬ l.XR c fs cls d Hi H) : Errs P K mg l [] :=
  ⟨fun h => absurd rfl h, fun h => absurd rfl h, fun _ z => (nomatch z), fun _ z => (nomatch z), fun c fs cls d Hi H z => absurd z (h c fs cls d Hi H)⟩
end Un
end
section
/-! Un: a text's phrase that the checker takes does what the pure language says. -/
namespace Un
open PySem PySem.Spec L2

structure Fit (X : Cx) (nc : Nc) (sc : Scope) (l : Lay) (fe : FE) : Prop where
  N : X.N = nc.N
  nd : X.N.Nodup
  sc : X.env.scope = sc
  K : X.K = l.K
  calm : X.calm = true
  room : RoomG nc.k X.A
  tk : Takes X l.W
  mgn : ∀ x ∈ bltNames, X.mg x = none
  gcd : nc.gcd = true → X.mg "gcd" = some (.builtin "math.gcd")
  pats : ∀ p ∈ nc.pats, CallOk X.prog X.w X.mg X.base l nc.k (fe p.f) p
  csts : ∀ c ∈ nc.csts, ∃ u v, X.mg c.1 = some u ∧ RelV v u ∧ ∀ H, Dq l.K H v c.2
  errs : Errs X.prog X.K X.mg l nc.errs
section
variable {X : Cx} {nc : Nc} {sc : Scope} {l : Lay} {fe : FE}
theorem Fit.units (F : Fit X nc sc l fe) : X.A.units + 128 < cLine := by
  have := F.room.r.un
  omega
theorem Fit.units2 (F : Fit X nc sc l fe) : X.A.units + 64 < cLine := by
  have := F.room.r.un
  omega
theorem Fit.gl (F : Fit X nc sc l fe) {x : Str} (h : glB sc x = true) : Gl X x := by
  show X.env.scope.names.lookup x = _
  rw [F.sc]
  exact glB_eq h
theorem Fit.vis (F : Fit X nc sc l fe) {x : Str} (h : visB sc x = true) : Vis X.env.scope x := by
  rw [F.sc]
  exact visB_eq h
theorem takes_no {X : Cx} : Takes X fun _ _ _ _ => False := fun u s' ⟨a, B, sI, pins, σ, H, cls, d, e, I, nb, up, sky, na, os, ag, w⟩ => w.elim
theorem look_map (g : Str → NameKind → NameKind) (x : Str) : ∀ l : List (Str × NameKind), (l.map fun p => (p.1, g p.1 p.2)).lookup x = (l.lookup x).map (g x)
  | [] => rfl
  | (n, k) :: r => by
    rw [List.map_cons, List.lookup_cons, List.lookup_cons]
    cases h : x == n with
    | true =>
      have e : x = n := by simpa using h
      subst e
      rfl
    | false => exact look_map g x r
theorem relS_look (scope sc : Scope) (x : Str) : (relS scope sc).names.lookup x = (scope.names.lookup x).map fun k => if (k == .free && sc.kind == .function && sc.names.lookup x == some .cell) then .cell else k := by
  have e : (relS scope sc).names = scope.names.map fun p => (p.1, (fun (n : Str) (k : NameKind) => if (k == .free && sc.kind == .function && sc.names.lookup n == some .cell) then .cell else k) p.1 p.2) := by
    unfold relS
    show scope.names.map _ = _
    congr 1
    funext p
    obtain ⟨n, k⟩ := p
    show (if (k == .free && sc.kind == .function && sc.names.lookup n == some .cell) = true then (n, NameKind.cell) else (n, k)) = (n, if (k == .free && sc.kind == .function && sc.names.lookup n == some .cell) = true then NameKind.cell else k)
    split <;> rfl
  rw [e]
  exact look_map (fun (n : Str) (k : NameKind) => if (k == .free && sc.kind == .function && sc.names.lookup n == some .cell) then .cell else k) x scope.names
/-- a name that is the block's own -/
def Own (X : Cx) (x : Str) : Prop := L2.Loc X.env.scope x ∧ (X.fn x = true ∨ X.env.scope.names.lookup x = some .local)
theorem Fit.blk (F : Fit X nc sc l fe) (s : Shared) (H : Hp) (scope : Scope) (cl : List (Str × Addr)) (C : Addr) (fp : List Addr) : Fit (X.blk s H scope (compEnvC scope cl C X.env) fp) nc (relS scope sc) l.mute fe where
  N := F.N
  nd := F.nd
  sc := by rw [← F.sc] <;> rfl
  K := F.K
  calm := F.calm
  room := F.room
  tk := takes_no
  mgn := F.mgn
  gcd := F.gcd
  pats := fun p hp => by
    obtain ⟨a, fd, ps, h1, h2, h3, h4, h5⟩ := (F.pats p hp).ex
    exact ⟨a, fd, ps, h1, h2, h3, h4, h5⟩
  csts := F.csts
  errs := ⟨F.errs.sup, F.errs.ve, F.errs.cls, F.errs.mkr, F.errs.got⟩
theorem Fit.blkOwn (F : Fit X nc sc l fe) (s : Shared) (H : Hp) (scope : Scope) (cl : List (Str × Addr)) (C : Addr) (fp : List Addr) {x : Str} (h : locB scope x = true) : Own (X.blk s H scope (compEnvC scope cl C X.env) fp) x := by
  have e : (X.blk s H scope (compEnvC scope cl C X.env) fp).env.scope.names.lookup x = (scope.names.lookup x).map fun k => if (k == .free && sc.kind == .function && sc.names.lookup x == some .cell) then .cell else k := by
    rw [← relS_look scope sc x, ← F.sc] <;> rfl
  rcases locB_eq h with q | q
  · have e2 := e
    rw [q] at e2
    exact ⟨.inl e2, .inr e2⟩
  · have e2 := e
    rw [q] at e2
    refine ⟨.inr e2, .inl ?_⟩
    show (scope.names.lookup x == some NameKind.cell) = true
    rw [q] <;> rfl
/-- a target -/
theorem tgB_ok (hN : X.N = nc.N) (nd : X.N.Nodup) (hK : X.K = l.K) (hc : X.calm = true) {sc : Scope} (own : ∀ x, locB sc x = true → Own X x) {tg : Tg} {e : Expr} (h : tgB nc sc tg e = true) : PG X e (gTg l.K tg) := by
  have one : ∀ {i : Nat} {e : Expr}, (match asName e with
      | some x => ownB nc sc i x
      | none => false) = true → ∃ x p, e = .Name x p ∧ PG X e (gName i) := fun {i e} h => by
    split at h
    · rename_i x hx
      obtain ⟨p, rfl⟩ := asName_eq hx
      unfold ownB at h
      rw [Bool.and_eq_true, decide_eq_true_eq] at h
      have o := own x h.2
      exact ⟨x, p, rfl, pg_name nd (by rw [hN]; exact h.1) o.1 o.2⟩
    · cases h
  cases tg with
  | nm i =>
    obtain ⟨x, p, rfl, hp⟩ := one (i := i) h
    exact hp
  | tp is =>
    have h : (match asTup e with
      | some es => (es.length == is.length) && (is.zip es).all (fun p => match asName p.2 with
        | some x => ownB nc sc p.1 x
        | none => false)
      | none => false) = true := h
    cases he : asTup e with
    | none =>
      rw [he] at h
      cases h
    | some es =>
      rw [he] at h
      obtain ⟨k, p, rfl⟩ := asTup_eq he
      have h : ((es.length == is.length) && (is.zip es).all (fun p => match asName p.2 with
        | some x => ownB nc sc p.1 x
        | none => false)) = true := h
      rw [Bool.and_eq_true] at h
      have hlen : es.length = is.length := by simpa using h.1
      have names : ∀ {is : List Nat} {es : List Expr}, es.length = is.length → ((is.zip es).all fun p => match asName p.2 with
          | some x => ownB nc sc p.1 x
          | none => false) = true → PGs X es (gNames is) ∧ (assignEach es X.env).length = is.length ∧ (assignEach es X.env).findIdx? (·.1) = none := fun {is} => by
        induction is with
        | nil =>
          intro es hl _
          cases es with
          | nil => exact ⟨pgs_nil, rfl, rfl⟩
          | cons _ _ => cases hl
        | cons i is ih =>
          intro es hl ha
          cases es with
          | nil => cases hl
          | cons e es =>
            rw [List.zip_cons_cons, List.all_cons, Bool.and_eq_true] at ha
            obtain ⟨x, p, rfl, hp⟩ := one (i := i) ha.1
            obtain ⟨h1, h2, h3⟩ := ih (es := es) (by simpa using hl) ha.2
            refine ⟨pgs_cons hp h1 rfl, ?_, ?_⟩
            · show (assignEach es X.env).length + 1 = is.length + 1
              rw [h2]
            · show ((false, _) :: assignEach es X.env).findIdx? (·.1) = none
              rw [List.findIdx?_cons]
              simp only [Bool.false_eq_true, if_false]
              rw [h3] <;> rfl
      obtain ⟨h1, h2, h3⟩ := names hlen h.2
      rw [← hK]
      exact pg_seq hc h1 h2 h3

/-- what the checker's answers mean -/
structure Snd (X : Cx) (l : Lay) (x : KX) (d : D4) (c : Ck) (sc : Scope) : Prop where
  v : ∀ e, c.v sc e = true → PE X e (tV l x d.v)
  t : ∀ e, c.t sc e = true → PT X e (tT l x d.t)
  a : ∀ es, c.a sc es = true → PA X es (tL l x d.l)
  k : ∀ ks, c.k sc ks = true → PK X ks (tL l x d.l)
  i : ∀ tg e, c.i sc tg e = true → PI X tg e (tI l x d.i) ∧ notSet e = true
  o : ∀ e, c.o sc e = true → PO X e (tO l x d.o)
theorem _root_.L2.PE.imq {X : Cx} {e : Expr} {t t' : TE} (h : PE X e t) (i : ∀ σ H Q, t' σ H Q → t σ H Q) : PE X e t' := ⟨fun pins s σ H Q I q => h.run pins s σ H Q I (i _ _ _ q)⟩
theorem _root_.L2.PT.imq {X : Cx} {e : Expr} {t t' : TT} (h : PT X e t) (i : ∀ σ H Q, t' σ H Q → t σ H Q) : PT X e t' := ⟨fun pins s σ H Q I q => h.run pins s σ H Q I (i _ _ _ q)⟩
theorem _root_.L2.PW.imq {X : Cx} {e : Expr} {t t' : TT} (h : PW X e t) (i : ∀ σ H Q, t' σ H Q → t σ H Q) : PW X e t' := ⟨fun w pins s σ H Q I q => h.run w pins s σ H Q I (i _ _ _ q)⟩
theorem _root_.L2.PA.imq {X : Cx} {e : List Expr} {t t' : TA} (h : PA X e t) (i : ∀ σ H Q, t' σ H Q → t σ H Q) : PA X e t' := ⟨fun p pins s σ H Q I q => h.run p pins s σ H Q I (i _ _ _ q)⟩
theorem _root_.L2.PK.imq {X : Cx} {e : List Keyword} {t t' : TA} (h : PK X e t) (i : ∀ σ H Q, t' σ H Q → t σ H Q) : PK X e t' := ⟨fun p pins s σ H Q I q => h.run p pins s σ H Q I (i _ _ _ q)⟩
theorem _root_.L2.PI.imq {X : Cx} {tg e : Expr} {t t' : TI} (h : PI X tg e t) (i : ∀ σ H Q, t' σ H Q → t σ H Q) : PI X tg e t' := ⟨fun pins s σ H Q I q => h.run pins s σ H Q I (i _ _ _ q)⟩
theorem _root_.L2.PO.imq {X : Cx} {e : Option Expr} {t t' : TO} (h : PO X e t) (i : ∀ σ H Q, t' σ H Q → t σ H Q) : PO X e t' := ⟨fun pins s σ H Q I q => h.run pins s σ H Q I (i _ _ _ q)⟩
/-- by values alone -/
theorem Snd.ofV {x : KX} {d : D4} {c : Ck} {sc : Scope} {v : Scope → Expr → Bool} (hc : c = Ck.ofV v) (F : X.K = l.K) (hd : d.t = (fun ρ k => d.v ρ fun a => truthW a k) ∧ d.i = (fun ρ k => d.v ρ fun a => seqW a k) ∧ d.o = (fun ρ k => d.v ρ fun a => Un.intW a fun n => k (some n)))
    (h : ∀ e, v sc e = true → PE X e (tV l x d.v)) : Snd X l x d c sc := by
  subst hc
  refine ⟨h, fun e he => ?_, fun es he => (nomatch he), fun ks he => (nomatch he), fun tg e he => ?_, fun e he => ?_⟩
  · have he : (plainT e && v sc e) = true := he
    rw [Bool.and_eq_true] at he
    rw [hd.1]
    refine (pt_truth (h e he.2) (plainT_eq he.1 X.env)).imq fun σ H Q q => ?_
    rw [F]
    exact rd_truth q
  · have he : (notSet e && v sc e) = true := he
    rw [Bool.and_eq_true] at he
    rw [hd.2.1]
    refine ⟨(pi_seqA (h e he.2)).imq fun σ H R q => ?_, he.1⟩
    rw [F]
    exact rd_seq q
  · have he : oB (v sc) e = true := he
    cases e with
    | none => cases he
    | some e =>
      rw [hd.2.2]
      exact (po_some (h e he)).imq fun σ H Q q => rd_part q
theorem Snd.ofI {x : KX} {d : D4} {c : Ck} {sc : Scope} {i : Scope → Expr → Expr → Bool} (hc : c = Ck.ofI i) (h : ∀ tg e, i sc tg e = true → PI X tg e (tI l x d.i)) : Snd X l x d c sc := by
  subst hc
  refine ⟨fun e he => (nomatch he), fun e he => (nomatch he), fun es he => (nomatch he), fun ks he => (nomatch he), fun tg e he => ?_, fun e he => (nomatch he)⟩
  have he : (notSet e && i sc tg e) = true := he
  rw [Bool.and_eq_true] at he
  exact ⟨h tg e he.2, he.1⟩
theorem pw_of {op : BoolOp} {es : List Expr} {p : Pos} {t : TT} (h : PT X (.BoolOp op es p) t) : PW X (.BoolOp op es p) t := ⟨fun w pins s σ H Q I q => h.run pins s σ H Q I q⟩
/-- f(e): the call of one argument -/
theorem callB1_ok {nm : Str} {va : Expr → Bool} {e : Expr} (h : callB1 nc sc nm va e = true) : ∃ a p q, e = .Call (.Name nm p) [a] [] q ∧ glB sc nm = true ∧ notStar a = true ∧ va a = true := by
  unfold callB1 at h
  split at h
  · rename_i x a hx
    obtain ⟨p, q, rfl⟩ := asCall_eq hx
    simp only [Bool.and_eq_true, decide_eq_true_eq] at h
    obtain ⟨⟨⟨rfl, h2⟩, h3⟩, h4⟩ := h
    exact ⟨a, p, q, rfl, h2, h3, h4⟩
  · cases h
theorem isB_ok {ty : Str} {va : Expr → Bool} {e : Expr} (h : isB nc sc ty va e = true) : ∃ a p q r, e = .Call (.Name "isinstance" p) [a, .Name ty r] [] q ∧ glB sc "isinstance" = true ∧ glB sc ty = true ∧ notStar a = true ∧ va a = true := by
  unfold isB at h
  split at h
  · rename_i x a t hx
    obtain ⟨p, q, rfl⟩ := asCall_eq hx
    simp only [Bool.and_eq_true, decide_eq_true_eq] at h
    obtain ⟨⟨⟨⟨⟨rfl, h2⟩, h3⟩, h4⟩, h5⟩, h6⟩ := h
    obtain ⟨r, rfl⟩ := asName_eq h5
    exact ⟨a, p, q, r, rfl, h2, h6, h3, h4⟩
  · cases h
theorem noneB_ok {op : CmpOp} {va : Expr → Bool} {e : Expr} (h : noneB op va e = true) : ∃ a k p q, e = .Compare a [op] [.Constant .none k p] q ∧ va a = true := by
  unfold noneB at h
  split at h
  · rename_i a op' b hx
    obtain ⟨q, rfl⟩ := asCmp_eq hx
    simp only [Bool.and_eq_true, decide_eq_true_eq] at h
    obtain ⟨⟨rfl, h2⟩, h3⟩ := h
    obtain ⟨k, p, rfl⟩ := isNone_eq h2
    exact ⟨a, k, p, q, rfl, h3⟩
  · cases h
end
end Un
end
section
/-! Un: every phrase. -/
namespace Un
open PySem PySem.Spec L2
section
variable {nc : Nc} {fe : FE}
theorem boolB_ok {op : BoolOp} {ta tb : Expr → Bool} {e : Expr} (h : boolB op ta tb e = true) : ∃ a b r p, e = .BoolOp op (a :: b :: r) p ∧ ta a = true ∧ (match r with
    | [] => tb b
    | _ :: _ => tb (.BoolOp op (b :: r) p)) = true := by
  unfold boolB at h
  split at h
  · rename_i op' a b r p hx
    have := asBool_eq hx
    subst this
    simp only [Bool.and_eq_true, decide_eq_true_eq] at h
    obtain ⟨⟨rfl, h2⟩, h3⟩ := h
    exact ⟨a, b, r, p, rfl, h2, h3⟩
  · cases h
theorem ca1 {X : Cx} {a : Expr} {t : TE} (h : PE X a t) (hs : notStar a = true) : PA X [a] (tCons t tNil) := pa_cons h pa_nil (star_cons hs [] X.env)
theorem blt_in {X : Cx} {sc : Scope} {l : Lay} (F : Fit X nc sc l fe) {x : Str} (h : bltNames.contains x = true) : X.mg x = none := F.mgn x (by simpa using h)
theorem snd_un {X : Cx} {sc : Scope} {l : Lay} {x : KX} (F : Fit X nc sc l fe) (o : O1) {f : List SV → KA → Prop} {va : Expr → Bool} (h : ∀ e, va e = true → PE X e (tV l x f)) (e : Expr) (he : unB nc sc o va e = true) :
    PE X e (tV l x fun ρ k => f ρ fun p => w1 o p k) := by
  have call : ∀ {nm : Str} {id : String}, callB1 nc sc nm va e = true → bltNames.contains nm = true → bootBuiltins nm = some (.builtin id) → nm ≠ "__name__" → (nm == ("__debug__" : Str)) = false → CallR X (.builtin id) (rC1 X.K (w1 o)) → PE X e (tV l x fun ρ k => f ρ fun p => w1 o p k) := fun {nm id} hb h1 h2 h3 h4 hr => by
    obtain ⟨a, p, q, rfl, hg, hs, hv⟩ := callB1_ok hb
    refine (pe_callB hr (F.gl hg) (blt_in F h1) h2 (ca1 (h a hv) hs) h3 h4 (star_cons hs [] X.env) rfl).imq fun σ H Q q => ?_
    rw [F.K]
    exact rd_call1 q
  have callT : ∀ {nm : Str} {T : String}, callB1 nc sc nm va e = true → bltNames.contains nm = true → bootBuiltins nm = some (.type T) → nm ≠ "__name__" → (nm == ("__debug__" : Str)) = false → CallR X (.type T) (rC1 X.K (w1 o)) → PE X e (tV l x fun ρ k => f ρ fun p => w1 o p k) := fun {nm T} hb h1 h2 h3 h4 hr => by
    obtain ⟨a, p, q, rfl, hg, hs, hv⟩ := callB1_ok hb
    refine (pe_callTy hr (F.gl hg) (blt_in F h1) h2 (ca1 (h a hv) hs) h3 h4 (star_cons hs [] X.env) rfl).imq fun σ H Q q => ?_
    rw [F.K]
    exact rd_call1 q
  have isi : ∀ {ty : Str} {T : String}, isB nc sc ty va e = true → bltNames.contains ty = true → bootBuiltins ty = some (.type T) → ty ≠ "__name__" → (ty == ("__debug__" : Str)) = false → CallR X (.builtin "isinstance") (rIs X.K T (w1 o)) → PE X e (tV l x fun ρ k => f ρ fun p => w1 o p k) := fun {ty T} hb h1 h2 h3 h4 hr => by
    obtain ⟨a, p, q, r, rfl, hg, hg2, hs, hv⟩ := isB_ok hb
    refine (pe_callB hr (F.gl hg) (blt_in F (by decide +kernel)) (by decide +kernel) (pa_cons (h a hv) (ca1 (pe_bltn (v := .ty T) (F.gl hg2) (blt_in F h1) h2 rfl h3 h4) rfl) (star_cons hs _ X.env)) (by decide) (by decide) (star_cons hs _ X.env) (star_plain (by rfl))).imq fun σ H Q q => ?_
    rw [F.K]
    exact rd_is q
  cases o with
  | neg =>
    unfold unB at he
    simp only at he
    split at he
    · rename_i op a hx
      obtain ⟨p, rfl⟩ := asUn_eq hx
      simp only [Bool.and_eq_true, decide_eq_true_eq] at he
      obtain ⟨rfl, hv⟩ := he
      refine (pe_un un_w (h a hv)).imq fun σ H Q q => ?_
      rw [F.K]
      exact rd_un q
    · cases he
  | isN =>
    obtain ⟨a, k, p, q, rfl, hv⟩ := noneB_ok (op := .Is) he
    exact (pe_cmp (pc_isN (h a hv))).imq fun σ H Q q => rd_isN q
  | notN =>
    obtain ⟨a, k, p, q, rfl, hv⟩ := noneB_ok (op := .IsNot) he
    exact (pe_cmp (pc_notN (h a hv))).imq fun σ H Q q => rd_notN q
  | len => exact call he (by decide +kernel) (by decide +kernel) (by decide) (by decide) call_lenW
  | int => exact callT he (by decide +kernel) (by decide +kernel) (by decide) (by decide) call_intW
  | abs => exact call he (by decide +kernel) (by decide +kernel) (by decide) (by decide) call_absW
  | repr => exact call he (by decide +kernel) (by decide +kernel) (by decide) (by decide) (call_reprW F.room.g F.units)
  | list => exact callT he (by decide +kernel) (by decide +kernel) (by decide) (by decide) call_listW
  | tuple => exact callT he (by decide +kernel) (by decide +kernel) (by decide) (by decide) call_tupleW
  | all => exact call he (by decide +kernel) (by decide +kernel) (by decide) (by decide) (call_allW F.calm)
  | any => exact call he (by decide +kernel) (by decide +kernel) (by decide) (by decide) (call_anyW F.calm)
  | sum => exact call he (by decide +kernel) (by decide +kernel) (by decide) (by decide) (call_sumW F.calm)
  | sset =>
    obtain ⟨a, p, q, rfl, hg, hs, hv⟩ := callB1_ok (nc := nc) (he : callB1 nc sc "sorted" (callB1 nc sc "set" va) e = true)
    obtain ⟨b, p2, q2, rfl, hg2, hs2, hv2⟩ := callB1_ok (nc := nc) hv
    have inner : PE X (.Call (.Name "set" p2) [b] [] q2) (tCB (rSetI X.K X.w) (tCons (tV l x f) tNil)) :=
      pe_callTy (cr_setI F.calm) (F.gl hg2) (blt_in F (by decide +kernel)) (by decide +kernel) (ca1 (h b hv2) hs2) (by decide) (by decide) (star_cons hs2 [] X.env) rfl
    refine (pe_callB (cr_sortedSet F.calm) (F.gl hg) (blt_in F (by decide +kernel)) (by decide +kernel) (ca1 inner hs) (by decide) (by decide) (star_cons hs [] X.env) rfl).imq fun σ H Q q => ?_
    rw [F.K]
    exact rd_sset q
  | srt => exact call he (by decide +kernel) (by decide +kernel) (by decide) (by decide) call_srtW
  | isInt => exact isi he (by decide +kernel) (by decide +kernel) (by decide) (by decide) (call_isW is_int)
  | isBool => exact isi he (by decide +kernel) (by decide +kernel) (by decide) (by decide) (call_isW is_bool)
  | isTuple => exact isi he (by decide +kernel) (by decide +kernel) (by decide) (by decide) (call_isW is_tuple)
  | isStr => exact isi he (by decide +kernel) (by decide +kernel) (by decide) (by decide) (call_isW is_str)
theorem snd_bin {X : Cx} {sc : Scope} {l : Lay} {x : KX} (F : Fit X nc sc l fe) (o : O2) {f g : List SV → KA → Prop} {va vb : Expr → Bool} (h : ∀ e, va e = true → PE X e (tV l x f)) (h' : ∀ e, vb e = true → PE X e (tV l x g)) (e : Expr) (he : binB o va vb e = true) :
    PE X e (tV l x fun ρ k => f ρ fun p => g ρ fun q => w2 o p q k) := by
  unfold binB at he
  split at he
  · rename_i op ho
    split at he
    · rename_i a op' b hx
      obtain ⟨p, rfl⟩ := asBin_eq hx
      simp only [Bool.and_eq_true, decide_eq_true_eq] at he
      obtain ⟨⟨rfl, h1⟩, h2⟩ := he
      refine (pe_op (op_bin ho) (h a h1) (h' b h2)).imq fun σ H Q q => ?_
      rw [F.K]
      exact rd_op q
    · cases he
  · rename_i ho
    split at he
    · rename_i op hc
      split at he
      · rename_i a op' b hx
        obtain ⟨p, rfl⟩ := asCmp_eq hx
        simp only [Bool.and_eq_true, decide_eq_true_eq] at he
        obtain ⟨⟨⟨rfl, h0⟩, h1⟩, h2⟩ := he
        refine (pe_cmpR (op_cmp F.units2 hc) (h a h1) (h' b h2) (notSet_in h0 _)).imq fun σ H Q q => ?_
        rw [F.K]
        exact rd_op q
      · cases he
    · rename_i hc
      split at he
      · rename_i a b hx
        obtain ⟨p, rfl⟩ := asSub_eq hx
        simp only [Bool.and_eq_true] at he
        obtain ⟨⟨h0, h1⟩, h2⟩ := he
        have hi : o = .idx := by cases o <;> first | rfl | (cases ho; done) | (cases hc; done)
        subst hi
        refine (pe_ix ix_w (h a h1) (h' b h2) (notSlc_eq h0)).imq fun σ H Q q => ?_
        rw [F.K]
        exact rd_op q
      · cases he
theorem snd_cmpT {X : Cx} {sc : Scope} {l : Lay} {x : KX} (F : Fit X nc sc l fe) (o : O2) {f g : List SV → KA → Prop} {va vb : Expr → Bool} (h : ∀ e, va e = true → PE X e (tV l x f)) (h' : ∀ e, vb e = true → PE X e (tV l x g)) (e : Expr) (he : cmpB o va vb e = true) :
    PT X e (tT l x fun ρ k => f ρ fun p => g ρ fun q => w2 o p q fun a => truthW a k) := by
  unfold cmpB at he
  split at he
  · rename_i op hc
    split at he
    · rename_i a op' b hx
      obtain ⟨p, rfl⟩ := asCmp_eq hx
      simp only [Bool.and_eq_true, decide_eq_true_eq] at he
      obtain ⟨⟨⟨rfl, h0⟩, h1⟩, h2⟩ := he
      refine (pt_cmpR (op_cmp F.units2 hc) (h a h1) (h' b h2) (notSet_in h0 _)).imq fun σ H Q q => ?_
      rw [F.K]
      exact rd_cmpT hc q
    · cases he
  · cases he
theorem snd_fn2 {X : Cx} {sc : Scope} {l : Lay} {x : KX} (F : Fit X nc sc l fe) (o : O3) {f g : List SV → KA → Prop} {va vb : Expr → Bool} (h : ∀ e, va e = true → PE X e (tV l x f)) (h' : ∀ e, vb e = true → PE X e (tV l x g)) (e : Expr) (he : fn2B nc sc o va vb e = true) :
    PE X e (tV l x fun ρ k => f ρ fun p => g ρ fun q => w3 o p q k) := by
  unfold fn2B at he
  split at he
  · rename_i y a b hx
    obtain ⟨p, q, rfl⟩ := asCall_eq hx
    simp only [Bool.and_eq_true, decide_eq_true_eq] at he
    obtain ⟨⟨⟨⟨⟨⟨rfl, hg⟩, hs⟩, hs2⟩, h1⟩, h2⟩, h3⟩ := he
    have pa : PA X [a, b] (tCons (tV l x f) (tCons (tV l x g) tNil)) := pa_cons (h a h1) (ca1 (h' b h2) hs2) (star_cons hs _ X.env)
    have hpl : (backTo q (starEach [b] X.env)).any (·.1) = false := star_plain (by simp [hs2])
    cases o with
    | max =>
      refine (pe_callB (call_maxW F.calm) (F.gl hg) (blt_in F (by decide +kernel)) (by decide +kernel) pa (by decide) (by decide) (star_cons hs _ X.env) hpl).imq fun σ H Q q => ?_
      rw [F.K]
      exact rd_call2 q
    | min =>
      refine (pe_callB (call_minW F.calm) (F.gl hg) (blt_in F (by decide +kernel)) (by decide +kernel) pa (by decide) (by decide) (star_cons hs _ X.env) hpl).imq fun σ H Q q => ?_
      rw [F.K]
      exact rd_call2 q
    | gcd =>
      refine (pe_callBfun call_gcdW (F.gl hg) (F.gcd h3) pa (by decide) (star_cons hs _ X.env) hpl).imq fun σ H Q q => ?_
      rw [F.K]
      exact rd_call2 q
  · cases he
theorem snd_max3 {X : Cx} {sc : Scope} {l : Lay} {x : KX} (F : Fit X nc sc l fe) {f g h : List SV → KA → Prop} {va vb vc : Expr → Bool} (h1 : ∀ e, va e = true → PE X e (tV l x f)) (h2 : ∀ e, vb e = true → PE X e (tV l x g)) (h3 : ∀ e, vc e = true → PE X e (tV l x h)) (e : Expr) (he : max3B nc sc va vb vc e = true) :
    PE X e (tV l x fun ρ k => f ρ fun p => g ρ fun q => h ρ fun r => max3W p q r k) := by
  unfold max3B at he
  split at he
  · rename_i y a b c hx
    obtain ⟨p, q, rfl⟩ := asCall_eq hx
    simp only [Bool.and_eq_true, decide_eq_true_eq] at he
    obtain ⟨⟨⟨⟨⟨⟨⟨rfl, hg⟩, hs⟩, hs2⟩, hs3⟩, w1⟩, w2⟩, w3⟩ := he
    have pa : PA X [a, b, c] (tCons (tV l x f) (tCons (tV l x g) (tCons (tV l x h) tNil))) := pa_cons (h1 a w1) (pa_cons (h2 b w2) (ca1 (h3 c w3) hs3) (star_cons hs2 _ X.env)) (star_cons hs _ X.env)
    have hpl : (backTo q (starEach [b, c] X.env)).any (·.1) = false := star_plain (by simp [hs2, hs3])
    refine (pe_callB (call_max3W F.calm) (F.gl hg) (blt_in F (by decide +kernel)) (by decide +kernel) pa (by decide) (by decide) (star_cons hs _ X.env) hpl).imq fun σ H Q q => ?_
    rw [F.K]
    exact rd_call3 q
  · cases he
theorem snd_call {X : Cx} {sc : Scope} {l : Lay} {x : KX} (F : Fit X nc sc l fe) (f : Nat) (pm : List Nat) {n m : Nat} {fs gs : List SV → (List AV → Prop) → Prop} {ca : List Expr → Bool} {ck : List Keyword → Bool}
    (h : ∀ e, ca e = true → PA X e (tL l x fs)) (h' : ∀ e, ck e = true → PK X e (tL l x gs)) (e : Expr) (he : callB nc sc f n m pm ca ck e = true) (h0 : n = 0 → ∀ ρ k, fs ρ k → k []) :
    PE X e (tV l x fun ρ k => fs ρ fun as => as.length = n ∧ gs ρ fun bs => bs.length = m ∧ ∃ cs, permL ((as ++ bs).map argOf) pm = some cs ∧ callW fe x f ((as ++ bs).any AV.isBor) cs k) := by
  unfold callB at he
  split at he
  · rename_i y es ks hx
    obtain ⟨p, q, rfl⟩ := asCall_eq hx
    simp only [Bool.and_eq_true, decide_eq_true_eq, List.any_eq_true, Bool.not_eq_true'] at he
    obtain ⟨⟨⟨⟨⟨⟨⟨⟨⟨hg, hdb⟩, hn⟩, hm⟩, hk⟩, hs⟩, h1⟩, h2⟩, h3⟩, pt, hp, ⟨⟨⟨rfl, rfl⟩, e3⟩, e4⟩, rfl⟩ := he
    obtain ⟨a, fd, ps, hm1, hm2, hm3, hm4, hm5⟩ := (F.pats pt hp).ex
    rw [← F.K] at hm2 hm4 hm5
    rw [e4] at hm4
    subst hn hm
    have rd : ∀ σ H Q, tV l x (fun ρ k => fs ρ fun as => as.length = es.length ∧ gs ρ fun bs => bs.length = (ks.filterMap (·.arg)).length ∧ ∃ cs, permL ((as ++ bs).map argOf) pt.perm = some cs ∧ callW fe x pt.f ((as ++ bs).any AV.isBor) cs k) σ H Q →
        tCallG (spF l (fe pt.f) ps.length) pt.n (ks.filterMap (·.arg)).length (gP pt.perm) l.W (tL l x fs) (tL l x gs) σ H Q := fun σ H Q q => by
      rw [e3]
      exact rd_call hm3.symm q
    cases es with
    | cons e1 es =>
      have hs' := hs
      rw [List.all_cons, Bool.and_eq_true] at hs'
      exact (pe_callG hm5 F.room (F.gl hg) hm1 hm2 hm4 F.tk (h _ h1) (h' _ h2) hk hdb (star_cons hs'.1 _ X.env) (star_plain hs'.2)).imq rd
    | nil =>
      refine (pe_callG0 hm5 F.room (F.gl hg) hm1 hm2 hm4 F.tk (h' _ h2) hk hdb).imq fun σ H Q q => ?_
      obtain ⟨L, Hi0, B, Hi, ρ, k, s, hf, ha⟩ := q
      have q2 := rd σ H Q ⟨L, Hi0, B, Hi, ρ, k, s, hf, ha⟩
      obtain ⟨L', Hi0', B', Hi', ρ', k', s', hf', ha'⟩ := q2
      exact ha' [] (h0 rfl _ _ hf') [] Hi' H (Grow.refl s'.r.g.sub) s'.r.src .nil
  · cases he
end
end Un
end
section
/-! Un: list(it), it an iterator that lays its items on the way: the loop with the heap in its invariant. -/
namespace Un
open PySem PySem.Spec L2 PyProof.Rows
abbrev lstO (acc : Array Value) (c : Nat) : Obj := { cls := .type "list", dict := none, data := .seq acc c, slots := #[] }
/-- what is asked of an iterator at I that fills the list at S: St i acc: i items stand in acc -/
structure Fills (prog : Program) (w : World) (A : Around) (I S : Addr) (n : Nat) (St : Nat → Array Value → Shared → Prop) (Fn : Array Value → Shared → Prop) : Prop where
  lst : ∀ i acc s, St i acc s → acc.size = i ∧ ∃ c, s.heap.get? S = some (lstO acc c)
  item : ∀ i acc s (Q : Option Value → Shared → Prop) (E : Value → Shared → Prop), i < n → St i acc s →
    (∀ v s', (∃ c, s'.heap.get? S = some (lstO acc c)) → St (i + 1) (acc.push v) { s' with heap := s'.heap.update S (Obj.mapSeq (·.push v)) } → Q (some v) s') → wpAny (model prog w) A (pyNext (.ref I)) Q E s
  done : ∀ acc s (Q : Option Value → Shared → Prop) (E : Value → Shared → Prop), St n acc s → (∀ s', Fn acc s' → Q none s') → wpAny (model prog w) A (pyNext (.ref I)) Q E s
section
variable {prog : Program} {w : World} {A : Around} {s : Shared} {I S : Addr} {n : Nat} {St : Nat → Array Value → Shared → Prop} {Fn : Array Value → Shared → Prop} {R : Result → Shared → Prop}
theorem fill_loop (W : Fills prog w A.in1 I S n St Fn) (hn : n ≤ sizeLine) (res : Value) : ∀ (k i : Nat) (s : Shared) (acc : Array Value), n - i = k → i ≤ n → St i acc s →
    (∀ s' acc', Fn acc' s' → R (.ok (.ret res)) s') → codeAny (model prog w) A (.builtin "list.extend.loop" ⟨[.ref S, .ref I, res], []⟩) R s := by
  intro k
  induction k with
  | zero =>
    intro i s acc hk hi hst hR
    have hin : i = n := by omega
    subst hin
    refine codeAny_builtin F.entry_extend_loop ?_
    rw [Around.under_plainId F.plain_extend_loop _]
    show wpAny _ A.in1 (pyNext (.ref I) >>= _) _ _ s
    exact wpAny_bind (W.done acc s _ _ hst fun s' hm => wpAny_pure (hR s' acc hm))
  | succ k ih =>
    intro i s acc hk hi hst hR
    have hlt : i < n := by omega
    have hsz := (W.lst i acc s hst).1
    refine codeAny_builtin F.entry_extend_loop ?_
    rw [Around.under_plainId F.plain_extend_loop _]
    show wpAny _ A.in1 (pyNext (.ref I) >>= _) _ _ s
    refine wpAny_bind (W.item i acc s _ _ hlt hst fun v s' ⟨c, hS'⟩ hst' => ?_)
    show wpAny _ A.in1 (updateSeq S (·.push v) >>= _) _ _ _
    refine wpAny_bind ?_
    exact wpAny_updateSeq hS' rfl (wpAny_pure ⟨plainId_quiet F.plain_extend_loop _, ih (i + 1) _ (acc.push v) (by omega) hlt hst' hR⟩)
      (by rw [hsz]; omega) (by show (acc.push v).size ≤ sizeLine + 1; rw [Array.size_push, hsz]; omega)
/-- list(it) -/
theorem list_of_it {E : Value → Shared → Prop} {Q : Value → Shared → Prop} {T : String} {oI : Obj} (hl : typeLookup (.type T) "__len__" = pure none) (hn0 : typeLookup (.type T) "__length_hint__" = pure none)
    (h2 : (Value.type T == Value.type "list") = false) (h3 : (Value.type T == Value.type "tuple") = false) (hI : s.heap.get? I = some oI) (hc : oI.cls = .type T)
    (self : ∀ (B : Around) (s' : Shared) (Q : Value → Shared → Prop) (E : Value → Shared → Prop), s'.heap.get? I = some oI → Q (.ref I) s' → wpAny (model prog w) B (pyIter (.ref I)) Q E s')
    (W : Fills prog w A.in1.in1 I s.heap.objs.size n St Fn) (hn : n ≤ sizeLine)
    (start : ∀ h' c, h'.get? s.heap.objs.size = some (lstO #[] c) → (∀ b o, s.heap.get? b = some o → h'.get? b = some o) → h'.objs.size = s.heap.objs.size + 1 → St 0 #[] { s with heap := h' })
    (hQ : ∀ s' acc, Fn acc s' → Q (.ref s.heap.objs.size) s') : wpAny (model prog w) A (call (.type "list") [.ref I]) Q E s := by
  have hlt : I < s.heap.objs.size := Heap.lt_size hI
  have hSI : s.heap.objs.size ≠ I := Nat.ne_of_gt hlt
  refine callType_codes (Q₁ := fun obj s₁ => obj = .ref s.heap.objs.size ∧ s₁ = { s with heap := s.heap.push { cls := .type "list", data := .seq #[] } }) F.called_list (F.typeCall_list_1 _) F.entry_list_init
    (code_list_new _ ⟨rfl, rfl⟩) fun obj s₁ h₁ => ?_
  obtain ⟨rfl, rfl⟩ := h₁
  have hS : (s.heap.push { cls := .type "list", data := .seq #[] }).get? s.heap.objs.size = some { cls := .type "list", data := .seq #[] } := Heap.get?_push_size _ rfl
  refine ⟨⟨_, hS, rfl⟩, F.args_list_init_2 _ _, ?_⟩
  show wpAny _ A.in1.in1 (do let old ← Builtin.List.listItems (.ref s.heap.objs.size); Builtin.List.listUpdate (.ref s.heap.objs.size) (fun _ => #[]); letGo old.toList.reverse; Builtin.List.listExtendWith (.ref s.heap.objs.size) (.ref I) .none) _ _ _
  refine wpAny_bind ?_
  unfold Builtin.List.listItems
  refine wpAny_bind (wpAny_seqItems hS rfl (wpAny_pure ?_))
  show wpAny _ A.in1.in1 (updateSeq s.heap.objs.size (fun _ => #[]) >>= fun _ => letGo (#[] : Array Value).toList.reverse >>= fun _ => Builtin.List.listExtendWith (.ref s.heap.objs.size) (.ref I) .none) _ _ _
  refine wpAny_bind (wpAny_updateSeq hS rfl ?_)
  have hS₁ := Heap.get?_update_self (Obj.mapSeq (fun _ => (#[] : Array Value))) hS rfl
  refine wpAny_bind (wpAny_letGo ?_)
  have old₁ : ∀ b o, s.heap.get? b = some o → ((s.heap.push { cls := .type "list", data := .seq #[] }).update s.heap.objs.size (Obj.mapSeq (fun _ => (#[] : Array Value)))).get? b = some o := fun b o e =>
    (Heap.get?_update_other _ _ (Nat.ne_of_gt (Heap.lt_size e))).trans (Heap.get?_push_of_some _ e)
  unfold Builtin.List.listExtendWith
  refine wpAny_bind (wpAny_typeOf ⟨oI, old₁ _ _ hI, hc⟩ ?_)
  have h1 : Builtin.List.listSameRef (.ref s.heap.objs.size) (.ref I) = false := by simp [Builtin.List.listSameRef, hSI]
  simp only [h1, h2, h3, Bool.or_false, Bool.false_eq_true, if_false]
  refine wpAny_bind (self _ _ _ _ (old₁ _ _ hI) ?_)
  refine wpAny_bind (wpAny_holding ?_)
  unfold Builtin.List.listLengthHint
  refine wpAny_bind (wpAny_specialOf ⟨oI, old₁ _ _ hI, hc⟩ hl ?_)
  show wpAny _ A.in1.in1 (specialOf (Value.ref I) (Str.ofString "__length_hint__") >>= _) _ _ _
  refine wpAny_bind (wpAny_specialOf ⟨oI, old₁ _ _ hI, hc⟩ hn0 ?_)
  refine wpAny_pure ?_
  show wpAny _ A.in1.in1 (rule "list.extend.makes-room" >>= fun _ => Builtin.List.listTouch (.ref s.heap.objs.size) >>= fun _ =>
    again (.builtin "list.extend.loop" ⟨[.ref s.heap.objs.size, .ref I, .none], []⟩)) _ _ _
  refine wpAny_bind (wpAny_rule ?_)
  refine wpAny_bind ?_
  show wpAny _ A.in1.in1 (updateSeq s.heap.objs.size (·.push .none) >>= fun _ => updateSeq s.heap.objs.size (·.pop)) _ _ _
  refine wpAny_bind (wpAny_updateSeq hS₁ rfl ?_)
  have hS₂ := Heap.get?_update_self (Obj.mapSeq (·.push Value.none)) hS₁ rfl
  refine wpAny_updateSeq hS₂ rfl ?_
  have hS₃ := Heap.get?_update_self (Obj.mapSeq (·.pop)) hS₂ rfl
  refine wpAny_pure ⟨plainId_quiet F.plain_extend_loop _, fill_loop W hn .none n 0 _ #[] rfl (Nat.zero_le _) (start _ _ hS₃ (fun b o e => ?_) ?_) fun s' acc' hf => ⟨rfl, hQ s' acc' hf⟩⟩
  · have hb : s.heap.objs.size ≠ b := Nat.ne_of_gt (Heap.lt_size e)
    rw [Heap.get?_update_other _ _ hb, Heap.get?_update_other _ _ hb]
    exact old₁ b o e
  · rw [Heap.size_update, Heap.size_update, Heap.size_update, Heap.size_push]
end
end Un
end
section
/-! Un: zip of any number of lists and tuples, drawn while its first tuple is held. -/
namespace Un
open PySem PySem.Spec L2 PyProof.Rows
/-- what one of the iterators walks -/
structure Src where
  it : Addr
  l : Addr
  tup : Bool
  xs : Array Value
def Src.at (a : Src) (i : Nat) (h : Heap) : Prop := if a.tup = true then h.IsTupleIter a.it a.l i ∧ h.IsTuple a.l a.xs else h.IsListIter a.it a.l i ∧ h.IsList a.l a.xs
theorem Src.keep {a : Src} {i : Nat} {h h' : Heap} (q : a.at i h) (k : ∀ c o, c = a.it ∨ c = a.l → h.get? c = some o → h'.get? c = some o) : a.at i h' := by
  unfold Src.at at q ⊢
  split at q
  · rename_i ht
    rw [if_pos ht]
    obtain ⟨⟨o, e, r⟩, ⟨o2, e2, r2⟩⟩ := q
    exact ⟨⟨o, k _ _ (.inl rfl) e, r⟩, ⟨o2, k _ _ (.inr rfl) e2, r2⟩⟩
  · rename_i ht
    rw [if_neg ht]
    obtain ⟨⟨o, e, r⟩, ⟨o2, e2, r2⟩⟩ := q
    exact ⟨⟨o, k _ _ (.inl rfl) e, r⟩, ⟨o2, k _ _ (.inr rfl) e2, r2⟩⟩
theorem Src.lt {a : Src} {i : Nat} {h : Heap} (q : a.at i h) : a.it < h.objs.size ∧ a.l < h.objs.size := by
  unfold Src.at at q
  split at q <;> obtain ⟨⟨o, e, r⟩, ⟨o2, e2, r2⟩⟩ := q <;> exact ⟨Heap.lt_size e, Heap.lt_size e2⟩
section
variable {prog : Program} {w : World} {A : Around} {E : Value → Shared → Prop} {s : Shared}
theorem Src.draw {a : Src} {i : Nat} {x : Value} {Q : Value → Shared → Prop} (q : a.at i s.heap) (hne : a.l ≠ a.it) (hx : a.xs[i]? = some x)
    (hQ : ∀ h', a.at (i + 1) h' → Heap.SameBut a.it s.heap h' → Q x { s with heap := h' }) : wpAny (model prog w) A (Builtin.SmallTypes.nextOf (.ref a.it)) Q E s := by
  unfold Src.at at q
  split at q
  · rename_i ht
    exact RZ.nextOf_tuple_item q.1 q.2 hx fun h' h1 h2 => hQ h' (by unfold Src.at; rw [if_pos ht]; exact ⟨h1, q.2.extBut h2.extBut hne⟩) h2
  · rename_i ht
    exact wpAny_nextOf_list_item q.1 q.2 hx fun h' h1 h2 => hQ h' (by unfold Src.at; rw [if_neg ht]; exact ⟨h1, q.2.extBut h2.extBut hne⟩) h2
theorem Src.over {a : Src} {i : Nat} {Q : Value → Shared → Prop} (hh : A.handled = none) (q : a.at i s.heap) (hx : a.xs[i]? = none)
    (hE : ∀ h' e, Heap.ExtBut a.it s.heap h' → (∃ o, h'.get? e = some o ∧ o.cls = .type "StopIteration") → E (.ref e) { s with heap := h' }) : wpAny (model prog w) A (Builtin.SmallTypes.nextOf (.ref a.it)) Q E s := by
  unfold Src.at at q
  split at q
  · exact RZ.nextOf_tuple_end hh q.1 q.2 hx hE
  · exact wpAny_nextOf_list_end hh q.1 q.2 hx hE
/-- the iterators stand apart -/
def Apart (as : List Src) : Prop := (as.map (·.it)).Nodup ∧ ∀ a ∈ as, ∀ b ∈ as, a.l ≠ b.it
theorem Apart.tail {a : Src} {as : List Src} (h : Apart (a :: as)) : Apart as ∧ (∀ b ∈ as, b.it ≠ a.it ∧ b.l ≠ a.it ∧ a.l ≠ b.it) ∧ a.l ≠ a.it := by
  obtain ⟨h1, h2⟩ := h
  rw [List.map_cons, List.nodup_cons] at h1
  refine ⟨⟨h1.2, fun x hx y hy => h2 x (List.mem_cons_of_mem _ hx) y (List.mem_cons_of_mem _ hy)⟩, fun b hb => ⟨fun z => h1.1 (z ▸ List.mem_map_of_mem hb), h2 b (List.mem_cons_of_mem _ hb) a (List.mem_cons_self ..), h2 a (List.mem_cons_self ..) b (List.mem_cons_of_mem _ hb)⟩, h2 a (List.mem_cons_self ..) a (List.mem_cons_self ..)⟩
/-- one item of each -/
theorem draw_all {β : Type} {f : Value → β → Sem (ForInStep β)} (add : β → Value → β)
    (hf : ∀ (it : Value) (b : β) (s : Shared) (Q : ForInStep β → Shared → Prop), wpAny (model prog w) A (Builtin.SmallTypes.nextOf it) (fun x s' => Q (.yield (add b x)) s') E s → wpAny (model prog w) A (f it b) Q E s) {i : Nat} :
    ∀ (as : List Src) (us : List Value) (b : β) (s : Shared) (Q : β → Shared → Prop), Apart as → (∀ a ∈ as, a.at i s.heap) → Paired (fun a u => a.xs[i]? = some u) as us →
      (∀ h', (∀ a ∈ as, a.at (i + 1) h') → (∀ c o, (∀ a ∈ as, c ≠ a.it) → s.heap.get? c = some o → h'.get? c = some o) → h'.objs.size = s.heap.objs.size → Q (us.foldl add b) { s with heap := h' }) →
      wpAny (model prog w) A (forIn (as.map fun a => Value.ref a.it) b f) Q E s
  | [], _, b, s, Q, _, _, .nil, hQ => by
    show wpAny _ _ (forIn [] b f) _ _ _
    rw [List.forIn_nil]
    exact wpAny_pure (hQ s.heap (fun _ z => nomatch z) (fun _ _ _ e => e) rfl)
  | a :: as, _, b, s, Q, ap, hat, .cons (l₂ := us) (b := u) hu ht, hQ => by
    obtain ⟨ap', hd, hne⟩ := ap.tail
    rw [List.map_cons, List.forIn_cons]
    refine wpAny_bind (hf _ _ _ _ (Src.draw (hat a (List.mem_cons_self ..)) hne hu fun h1 h1a sb => ?_))
    refine draw_all add hf as us (add b u) { s with heap := h1 } Q ap' (fun c hc => Src.keep (hat c (List.mem_cons_of_mem _ hc)) fun d o hd' e => ?_) ht fun h2 h2a k2 sz => ?_
    · refine (sb.2 d ?_).trans e
      rcases hd' with rfl | rfl
      · exact (hd c hc).1
      · exact (hd c hc).2.1
    · refine hQ h2 (fun c hc => ?_) (fun c o hc e => k2 c o (fun d hd' => hc d (List.mem_cons_of_mem _ hd')) ((sb.2 c (hc a (List.mem_cons_self ..))).trans e)) (sz.trans sb.1)
      rcases List.mem_cons.mp hc with rfl | hc
      · refine Src.keep h1a fun d o hd' e => k2 d o (fun g hg => ?_) e
        rcases hd' with rfl | rfl
        · exact fun z => (hd g hg).1 z.symm
        · exact (hd g hg).2.2
      · exact h2a c hc
/-- one of them has no further item -/
theorem draw_end {β : Type} {f : Value → β → Sem (ForInStep β)} (add : β → Value → β)
    (hf : ∀ (it : Value) (b : β) (s : Shared) (Q : ForInStep β → Shared → Prop), wpAny (model prog w) A (Builtin.SmallTypes.nextOf it) (fun x s' => Q (.yield (add b x)) s') E s → wpAny (model prog w) A (f it b) Q E s) (hh : A.handled = none) {i : Nat} :
    ∀ (as : List Src) (b : β) (s : Shared) (Q : β → Shared → Prop), Apart as → (∀ a ∈ as, a.at i s.heap) → (∃ a ∈ as, a.xs[i]? = none) →
      (∀ h' e, (∀ c o, (∀ a ∈ as, c ≠ a.it) → s.heap.get? c = some o → h'.get? c = some o) → (∃ o, h'.get? e = some o ∧ o.cls = .type "StopIteration") → E (.ref e) { s with heap := h' }) →
      wpAny (model prog w) A (forIn (as.map fun a => Value.ref a.it) b f) Q E s
  | [], b, s, Q, _, _, h, _ => by
    obtain ⟨a, ha, _⟩ := h
    cases ha
  | a :: as, b, s, Q, ap, hat, hend, hE => by
    obtain ⟨ap', hd, hne⟩ := ap.tail
    rw [List.map_cons, List.forIn_cons]
    refine wpAny_bind (hf _ _ _ _ ?_)
    cases hx : a.xs[i]? with
    | none => exact Src.over hh (hat a (List.mem_cons_self ..)) hx fun h' e k he => hE h' e (fun c o hc z => k c o (hc a (List.mem_cons_self ..)) z) he
    | some x =>
      have hend' : ∃ c ∈ as, c.xs[i]? = none := by
        obtain ⟨c, hc, hn⟩ := hend
        rcases List.mem_cons.mp hc with rfl | hc
        · rw [hx] at hn
          cases hn
        · exact ⟨c, hc, hn⟩
      refine Src.draw (hat a (List.mem_cons_self ..)) hne hx fun h1 h1a sb => ?_
      refine draw_end add hf hh as (add b x) { s with heap := h1 } Q ap' (fun c hc => Src.keep (hat c (List.mem_cons_of_mem _ hc)) fun d o hd' e => ?_) hend' fun h' e k he => ?_
      · refine (sb.2 d ?_).trans e
        rcases hd' with rfl | rfl
        · exact (hd c hc).1
        · exact (hd c hc).2.1
      · exact hE h' e (fun c o hc z => k c o (fun d hd' => hc d (List.mem_cons_of_mem _ hd')) ((sb.2 c (hc a (List.mem_cons_self ..))).trans z)) he
abbrev tupO (us : List Value) : Obj := { cls := .type "tuple", data := .seq us.toArray }
/-- the zip at z, its iterators' tuple at TI, its own tuple at TO, among the sources -/
structure ZApart (z TI TO : Addr) (as : List Src) : Prop where
  ap : Apart as
  ne : as ≠ []
  zz : ∀ a ∈ as, a.it ≠ z ∧ a.l ≠ z ∧ a.it ≠ TI ∧ a.it ≠ TO ∧ a.l ≠ TO
  TIz : TI ≠ z
  TOz : TO ≠ z
  TITO : TI ≠ TO
theorem fold_push : ∀ (us : List Value) (b : Option Fin × Array Value), us.foldl (fun (b : Option Fin × Array Value) x => (none, b.2.push x)) (none, b.2) = (none, b.2 ++ us.toArray)
  | [], b => by simp
  | u :: us, b => by
    rw [List.foldl_cons]
    have := fold_push us (none, b.2.push u)
    rw [this]
    simp
theorem zipN_next_held {z TI TO T : Addr} {f : Bool} {oT : Obj} {as : List Src} {us : List Value} {i : Nat} {Q : Value → Shared → Prop} (D : ZApart z TI TO as)
    (hz : IsZipHeld s.heap z TI TO T f) (hT : s.heap.get? T = some oT) (hTI : s.heap.get? TI = some (tupO (as.map fun a => Value.ref a.it)))
    (hat : ∀ a ∈ as, a.at i s.heap) (hu : Paired (fun a u => a.xs[i]? = some u) as us) (hn : us.length ≤ sizeLine)
    (hQ : ∀ h', IsZipHeld h' z TI TO T true → (∀ a ∈ as, a.at (i + 1) h') → h'.get? s.heap.objs.size = some (tupO us) → h'.objs.size = s.heap.objs.size + 1 →
      (∀ c o, c ≠ z → (∀ a ∈ as, c ≠ a.it) → s.heap.get? c = some o → h'.get? c = some o) → Q (.ref s.heap.objs.size) { s with heap := h' }) :
    wpAny (model prog w) A (Builtin.«zip.__next__» ⟨[.ref z], []⟩) (fun fin s' => ∃ v, fin = .done (.ret v) ∧ Q v s') E s := by
  show wpAny _ _ (field (.ref z) 2 >>= _) _ _ _
  refine wpAny_bind (wpAny_field hz rfl (x := .bool false) rfl ?_)
  show wpAny _ _ (field (.ref z) 3 >>= _) _ _ _
  refine wpAny_bind (wpAny_field hz rfl (x := .ref TI) rfl ?_)
  refine wpAny_bind (wpAny_seqItems hTI rfl ?_)
  have he : (as.map fun a => Value.ref a.it).toArray.isEmpty = false := by
    cases as with
    | nil => exact absurd rfl D.ne
    | cons a r => simp
  simp only [he, Bool.false_eq_true, if_false]
  refine wpAny_bind (wpAny_tupleHeld_zip hz hT fun h₁ hz₁ hs₁ => ?_)
  simp only [Bool.false_eq_true, if_false]
  refine wpAny_bind ?_
  rw [← Array.forIn_toList]
  rw [List.toList_toArray]
  refine draw_all (fun (b : Option Fin × Array Value) x => (none, b.2.push x)) (fun it b s Q h => ?_) as us (none, #[]) { s with heap := h₁ } _ D.ap (fun a ha => Src.keep (hat a ha) fun c o hc e => ?_) hu (fun h₂ h2 k2 sz => ?_)
  · refine wpAny_bind (wpAny_holding ?_)
    show wpAny _ _ (Builtin.SmallTypes.nextOf it >>= _) _ _ _
    exact wpAny_bind (wpAny_mono h (fun x s' q => wpAny_pure (wpAny_pure q)) fun _ _ z => z)
  · refine (hs₁.2 c ?_).trans e
    obtain ⟨d1, d2, _⟩ := D.zz a ha
    rcases hc with rfl | rfl
    · exact d1
    · exact d2
  · rw [fold_push us (none, #[])]
    show wpAny _ _ (newTuple ((#[] : Array Value) ++ us.toArray).toList >>= _) _ _ _
    have e1 : ((#[] : Array Value) ++ us.toArray).toList = us := by simp
    rw [e1]
    refine wpAny_bind (wpAny_newTuple (hsz := hn) ?_)
    refine wpAny_pure ⟨_, rfl, ?_⟩
    have hsz : h₂.objs.size = s.heap.objs.size := sz.trans hs₁.1
    have kk : ∀ c o, c ≠ z → (∀ a ∈ as, c ≠ a.it) → s.heap.get? c = some o → h₂.get? c = some o := fun c o c1 c2 e => k2 c o c2 ((hs₁.2 c c1).trans e)
    have hp : (h₂.push (tupO us)).get? h₂.objs.size = some (tupO us) := Heap.get?_push_size _ rfl
    have hz4 : (h₂.push (tupO us)).objs.size = h₂.objs.size + 1 := Heap.size_push ..
    show Q (.ref h₂.objs.size) _
    rw [hsz] at hp hz4 ⊢
    exact hQ _ (Heap.get?_push_of_some _ (k2 z _ (fun a ha => (D.zz a ha).1.symm) hz₁)) (fun a ha => Src.keep (h2 a ha) fun c o _ e => Heap.get?_push_of_some _ e) hp hz4 fun c o c1 c2 e => Heap.get?_push_of_some _ (kk c o c1 c2 e)
theorem zipN_end_held {z TI TO T : Addr} {f : Bool} {oT : Obj} {as : List Src} {i : Nat} {Q : Fin → Shared → Prop} (hh : A.handled = none) (D : ZApart z TI TO as)
    (hz : IsZipHeld s.heap z TI TO T f) (hT : s.heap.get? T = some oT) (hTI : s.heap.get? TI = some (tupO (as.map fun a => Value.ref a.it)))
    (hat : ∀ a ∈ as, a.at i s.heap) (hend : ∃ a ∈ as, a.xs[i]? = none)
    (hE : ∀ h' e, (∀ c o, c ≠ z → (∀ a ∈ as, c ≠ a.it) → s.heap.get? c = some o → h'.get? c = some o) → (∃ o, h'.get? e = some o ∧ o.cls = .type "StopIteration") → E (.ref e) { s with heap := h' }) :
    wpAny (model prog w) A (Builtin.«zip.__next__» ⟨[.ref z], []⟩) Q E s := by
  show wpAny _ _ (field (.ref z) 2 >>= _) _ _ _
  refine wpAny_bind (wpAny_field hz rfl (x := .bool false) rfl ?_)
  show wpAny _ _ (field (.ref z) 3 >>= _) _ _ _
  refine wpAny_bind (wpAny_field hz rfl (x := .ref TI) rfl ?_)
  refine wpAny_bind (wpAny_seqItems hTI rfl ?_)
  have he : (as.map fun a => Value.ref a.it).toArray.isEmpty = false := by
    cases as with
    | nil => exact absurd rfl D.ne
    | cons a r => simp
  simp only [he, Bool.false_eq_true, if_false]
  refine wpAny_bind (wpAny_tupleHeld_zip hz hT fun h₁ hz₁ hs₁ => ?_)
  simp only [Bool.false_eq_true, if_false]
  refine wpAny_bind ?_
  rw [← Array.forIn_toList, List.toList_toArray]
  refine draw_end (fun (b : Option Fin × Array Value) x => (none, b.2.push x)) (fun it b s Q h => ?_) hh as (none, #[]) { s with heap := h₁ } _ D.ap (fun a ha => Src.keep (hat a ha) fun c o hc e => ?_) hend (fun h' e k he => ?_)
  · refine wpAny_bind (wpAny_holding ?_)
    show wpAny _ _ (Builtin.SmallTypes.nextOf it >>= _) _ _ _
    exact wpAny_bind (wpAny_mono h (fun x s' q => wpAny_pure (wpAny_pure q)) fun _ _ z => z)
  · refine (hs₁.2 c ?_).trans e
    obtain ⟨d1, d2, _⟩ := D.zz a ha
    rcases hc with rfl | rfl
    · exact d1
    · exact d2
  · exact hE h' e (fun c o c1 c2 z => k c o c2 ((hs₁.2 c c1).trans z)) he
theorem set_at (pre : List Value) (r x : Value) (rest : List Value) : (pre ++ r :: rest).toArray.setIfInBounds pre.length x = (pre ++ [x] ++ rest).toArray := by
  simp
/-- one item of each, laid into the tuple at TO -/
theorem draw_own {β : Type} {TO : Addr} (b : β) {f : Value × Nat → β → Sem (ForInStep β)}
    (hf : ∀ (it : Value) (k : Nat) (s : Shared) (Q : ForInStep β → Shared → Prop), wpAny (model prog w) A (Builtin.SmallTypes.nextOf it) (fun x s' => ∃ ows : Array Value, s'.heap.get? TO = some { cls := .type "tuple", data := .seq ows } ∧ ows.size ≤ sizeLine ∧
      ∀ h', h'.get? TO = some { cls := .type "tuple", data := .seq (ows.setIfInBounds k x) } → Heap.SameBut TO s'.heap h' → Q (.yield b) { s' with heap := h' }) (fun _ _ => False) s → wpAny (model prog w) A (f (it, k) b) Q E s) {i : Nat} :
    ∀ (as : List Src) (us pre rest : List Value) (s : Shared) (Q : β → Shared → Prop), rest.length = as.length → (pre ++ rest).length ≤ sizeLine → Apart as → (∀ a ∈ as, a.it ≠ TO ∧ a.l ≠ TO) → (∀ a ∈ as, a.at i s.heap) → Paired (fun a u => a.xs[i]? = some u) as us →
      s.heap.get? TO = some (tupO (pre ++ rest)) →
      (∀ h', (∀ a ∈ as, a.at (i + 1) h') → h'.get? TO = some (tupO (pre ++ us)) → (∀ c o, c ≠ TO → (∀ a ∈ as, c ≠ a.it) → s.heap.get? c = some o → h'.get? c = some o) → h'.objs.size = s.heap.objs.size → Q b { s with heap := h' }) →
      wpAny (model prog w) A (forIn ((as.map fun a => Value.ref a.it).zipIdx pre.length) b f) Q E s
  | [], _, pre, rest, s, Q, hr, _, _, _, _, .nil, hTO, hQ => by
    obtain rfl : rest = [] := List.length_eq_zero_iff.mp hr
    show wpAny _ _ (forIn [] b f) _ _ _
    rw [List.forIn_nil]
    exact wpAny_pure (hQ s.heap (fun _ z => nomatch z) hTO (fun _ _ _ _ e => e) rfl)
  | a :: as, _, pre, [], s, Q, hr, _, _, _, _, .cons _ _, hTO, hQ => nomatch hr
  | a :: as, _, pre, r :: rest, s, Q, hr, hz, ap, hto, hat, .cons (l₂ := us) (b := u) hu ht, hTO, hQ => by
    obtain ⟨ap', hd, hne⟩ := ap.tail
    obtain ⟨t1, t2⟩ := hto a (List.mem_cons_self ..)
    rw [List.map_cons, List.zipIdx_cons, List.forIn_cons]
    refine wpAny_bind (hf _ _ _ _ (Src.draw (hat a (List.mem_cons_self ..)) hne hu fun h1 h1a sb => ⟨_, (sb.2 TO t1.symm).trans hTO, by simpa using hz, fun h2 hTO2 sb2 => ?_⟩))
    rw [set_at] at hTO2
    have hl : pre.length + 1 = (pre ++ [u]).length := by rw [List.length_append, List.length_singleton]
    show wpAny _ _ (forIn ((as.map fun a => Value.ref a.it).zipIdx (pre.length + 1)) b f) _ _ _
    rw [hl]
    refine draw_own b hf as us (pre ++ [u]) rest { s with heap := h2 } Q (by simpa using hr) (by simpa using hz) ap' (fun c hc => hto c (List.mem_cons_of_mem _ hc)) (fun c hc => Src.keep (hat c (List.mem_cons_of_mem _ hc)) fun d o hd' e => ?_) ht hTO2 fun h3 h3a hTO3 k3 sz => ?_
    · obtain ⟨q1, q2⟩ := hto c (List.mem_cons_of_mem _ hc)
      have dTO : d ≠ TO := by rcases hd' with rfl | rfl <;> assumption
      refine (sb2.2 d dTO).trans ((sb.2 d ?_).trans e)
      rcases hd' with rfl | rfl
      · exact (hd c hc).1
      · exact (hd c hc).2.1
    · refine hQ h3 (fun c hc => ?_) (by simpa using hTO3) (fun c o c1 hc e => k3 c o c1 (fun d hd' => hc d (List.mem_cons_of_mem _ hd')) ((sb2.2 c c1).trans ((sb.2 c (hc a (List.mem_cons_self ..))).trans e))) (sz.trans (sb2.1.trans sb.1))
      rcases List.mem_cons.mp hc with rfl | hc
      · refine Src.keep h1a fun d o hd' e => ?_
        have dTO : d ≠ TO := by rcases hd' with rfl | rfl <;> assumption
        refine k3 d o dTO (fun g hg => ?_) ((sb2.2 d dTO).trans e)
        rcases hd' with rfl | rfl
        · exact fun z => (hd g hg).1 z.symm
        · exact (hd g hg).2.2
      · exact h3a c hc
theorem zipN_first {z TI TO : Addr} {rest : List Value} {as : List Src} {us : List Value} {i : Nat} {Q : Value → Shared → Prop} (D : ZApart z TI TO as)
    (hz : IsZip s.heap z TI TO .none) (hTI : s.heap.get? TI = some (tupO (as.map fun a => Value.ref a.it))) (hTO : s.heap.get? TO = some (tupO rest)) (ho : rest.length = as.length)
    (hat : ∀ a ∈ as, a.at i s.heap) (hu : Paired (fun a u => a.xs[i]? = some u) as us) (hn : us.length ≤ sizeLine)
    (hQ : ∀ h', IsZipHeld h' z TI TO s.heap.objs.size false → (∀ a ∈ as, a.at (i + 1) h') → h'.get? s.heap.objs.size = some (tupO us) → h'.objs.size = s.heap.objs.size + 1 →
      (∀ c o, c ≠ z → c ≠ TO → (∀ a ∈ as, c ≠ a.it) → s.heap.get? c = some o → h'.get? c = some o) → Q (.ref s.heap.objs.size) { s with heap := h' }) :
    wpAny (model prog w) A (Builtin.«zip.__next__» ⟨[.ref z], []⟩) (fun fin s' => ∃ v, fin = .done (.ret v) ∧ Q v s') E s := by
  show wpAny _ _ (field (.ref z) 2 >>= _) _ _ _
  refine wpAny_bind (wpAny_field hz rfl (x := .bool false) rfl ?_)
  show wpAny _ _ (field (.ref z) 3 >>= _) _ _ _
  refine wpAny_bind (wpAny_field hz rfl (x := .ref TI) rfl ?_)
  refine wpAny_bind (wpAny_seqItems hTI rfl ?_)
  have he : (as.map fun a => Value.ref a.it).toArray.isEmpty = false := by
    cases as with
    | nil => exact absurd rfl D.ne
    | cons a r => simp
  simp only [he, Bool.false_eq_true, if_false]
  refine wpAny_bind ?_
  unfold Builtin.SmallTypes.ownedTupleIsFree
  refine wpAny_bind (wpAny_field hz rfl (x := .none) rfl (wpAny_pure ?_))
  simp only [if_true]
  refine wpAny_bind (wpAny_rule ?_)
  refine wpAny_bind (wpAny_field hz rfl (x := .ref TO) rfl ?_)
  refine wpAny_bind (wpAny_setField_rec hz (by simp) fun h₁ hz₁ hs₁ => ?_)
  replace hz₁ : IsZip h₁ z TI TO .ellipsis := hz₁
  refine wpAny_bind ?_
  refine draw_own (TO := TO) (none, ()) (fun it k s Q h => ?_) as us [] rest { s with heap := h₁ } _ ho (by rw [List.nil_append, ho, Paired.length hu] <;> exact hn) D.ap (fun a ha => ⟨(D.zz a ha).2.2.2.1, (D.zz a ha).2.2.2.2⟩) (fun a ha => Src.keep (hat a ha) fun c o hc e => ?_) hu ((hs₁.2 TO D.TOz).trans hTO) (fun h₂ h2 hTO2 k2 sz => ?_)
  · refine wpAny_bind (wpAny_onRaise ?_)
    show wpAny _ _ (Builtin.SmallTypes.nextOf it >>= _) _ _ _
    refine wpAny_bind (wpAny_mono h (fun x s' q => ?_) fun _ _ z => z.elim)
    obtain ⟨ows, q1, qz, q2⟩ := q
    refine wpAny_pure ?_
    refine wpAny_bind (wpAny_seqItems q1 rfl ?_)
    refine wpAny_bind ?_
    refine wpAny_updateSeq q1 rfl ?_ qz (by rw [Array.size_setIfInBounds]; omega)
    refine wpAny_bind (wpAny_letGo (wpAny_pure ?_))
    refine q2 _ ?_ (Heap.SameBut.update ..)
    rw [Heap.get?_update_self _ q1 rfl]
    simp [Obj.mapSeq]
  · refine (hs₁.2 c ?_).trans e
    obtain ⟨d1, d2, _⟩ := D.zz a ha
    rcases hc with rfl | rfl
    · exact d1
    · exact d2
  · rw [List.nil_append] at hTO2
    dsimp only
    refine wpAny_bind (wpAny_seqItems hTO2 rfl ?_)
    show wpAny _ _ (newTuple us.toArray.toList >>= _) _ _ _
    rw [List.toList_toArray]
    refine wpAny_bind (wpAny_newTuple (hsz := hn) ?_)
    have hsz : h₂.objs.size = s.heap.objs.size := sz.trans hs₁.1
    have hz₂ : IsZip h₂ z TI TO .ellipsis := k2 z _ D.TOz.symm (fun a ha => (D.zz a ha).1.symm) hz₁
    have hzlt : z < h₂.objs.size := Heap.lt_size hz₂
    show wpAny _ _ (Builtin.SmallTypes.ownedTupleHandOut (.ref z) (.ref h₂.objs.size) >>= _) _ _ _
    refine wpAny_bind ?_
    unfold Builtin.SmallTypes.ownedTupleHandOut
    have hz₆ : IsZip (h₂.push (tupO us)) z TI TO .ellipsis := Heap.get?_push_of_some _ hz₂
    refine wpAny_bind (wpAny_setField_rec hz₆ (by simp) fun h₇ hz₇ hs₇ => ?_)
    replace hz₇ : IsZip h₇ z TI TO (rawInt h₂.objs.size) := hz₇
    refine wpAny_setField_rec hz₇ (by simp) fun h₈ hz₈ hs₈ => ?_
    replace hz₈ : IsZip h₈ z TI TO (rawInt h₂.objs.size) := hz₈
    have up : ∀ c o, c ≠ z → h₂.get? c = some o → h₈.get? c = some o := fun c o c1 e => hs₈.extBut _ _ c1 (hs₇.extBut _ _ c1 (Heap.get?_push_of_some _ e))
    have hT₈ : h₈.get? h₂.objs.size = some (tupO us) := hs₈.extBut _ _ (Nat.ne_of_gt hzlt) (hs₇.extBut _ _ (Nat.ne_of_gt hzlt) (Heap.get?_push_size _ rfl))
    have hz8 : h₈.objs.size = h₂.objs.size + 1 := by rw [hs₈.1, hs₇.1, Heap.size_push]
    rw [hsz] at hz₈ hT₈ hz8
    refine wpAny_pure ⟨_, rfl, ?_⟩
    show Q (.ref h₂.objs.size) _
    rw [hsz]
    exact hQ _ hz₈ (fun a ha => Src.keep (h2 a ha) fun c o hc e => up c o (by
      obtain ⟨d1, d2, _⟩ := D.zz a ha
      rcases hc with rfl | rfl
      · exact d1
      · exact d2) e) hT₈ hz8 fun c o c1 c2 c3 e => up c o c1 (k2 c o c2 c3 ((hs₁.2 c c1).trans e))
theorem draw_own_end {β : Type} {TO : Addr} (b : β) (Ee : Value → Shared → Prop) {f : Value × Nat → β → Sem (ForInStep β)}
    (hf : ∀ (it : Value) (k : Nat) (s : Shared) (Q : ForInStep β → Shared → Prop), wpAny (model prog w) A (Builtin.SmallTypes.nextOf it) (fun x s' => ∃ ows : Array Value, s'.heap.get? TO = some { cls := .type "tuple", data := .seq ows } ∧ ows.size ≤ sizeLine ∧
      ∀ h', h'.get? TO = some { cls := .type "tuple", data := .seq (ows.setIfInBounds k x) } → Heap.SameBut TO s'.heap h' → Q (.yield b) { s' with heap := h' }) Ee s → wpAny (model prog w) A (f (it, k) b) Q E s) (hh : A.handled = none) {i : Nat} :
    ∀ (as : List Src) (pre rest : List Value) (s : Shared) (Q : β → Shared → Prop), rest.length = as.length → (pre ++ rest).length ≤ sizeLine → Apart as → (∀ a ∈ as, a.it ≠ TO ∧ a.l ≠ TO) → (∀ a ∈ as, a.at i s.heap) → (∃ a ∈ as, a.xs[i]? = none) →
      s.heap.get? TO = some (tupO (pre ++ rest)) →
      (∀ h' e, (∀ c o, c ≠ TO → (∀ a ∈ as, c ≠ a.it) → s.heap.get? c = some o → h'.get? c = some o) → (∃ o, h'.get? e = some o ∧ o.cls = .type "StopIteration") → Ee (.ref e) { s with heap := h' }) →
      wpAny (model prog w) A (forIn ((as.map fun a => Value.ref a.it).zipIdx pre.length) b f) Q E s
  | [], pre, rest, s, Q, hr, _, _, _, _, h, hTO, hQ => by
    obtain ⟨a, ha, _⟩ := h
    cases ha
  | a :: as, pre, [], s, Q, hr, _, _, _, _, _, hTO, hQ => nomatch hr
  | a :: as, pre, r :: rest, s, Q, hr, hz, ap, hto, hat, hend, hTO, hE => by
    obtain ⟨ap', hd, hne⟩ := ap.tail
    obtain ⟨t1, t2⟩ := hto a (List.mem_cons_self ..)
    rw [List.map_cons, List.zipIdx_cons, List.forIn_cons]
    refine wpAny_bind (hf _ _ _ _ ?_)
    cases hx : a.xs[i]? with
    | none => exact Src.over hh (hat a (List.mem_cons_self ..)) hx fun h' e k he => hE h' e (fun c o _ hc z => k c o (hc a (List.mem_cons_self ..)) z) he
    | some x =>
      have hend' : ∃ c ∈ as, c.xs[i]? = none := by
        obtain ⟨c, hc, hn⟩ := hend
        rcases List.mem_cons.mp hc with rfl | hc
        · rw [hx] at hn
          cases hn
        · exact ⟨c, hc, hn⟩
      refine Src.draw (hat a (List.mem_cons_self ..)) hne hx fun h1 h1a sb => ⟨_, (sb.2 TO t1.symm).trans hTO, by simpa using hz, fun h2 hTO2 sb2 => ?_⟩
      rw [set_at] at hTO2
      have hl : pre.length + 1 = (pre ++ [x]).length := by rw [List.length_append, List.length_singleton]
      show wpAny _ _ (forIn ((as.map fun a => Value.ref a.it).zipIdx (pre.length + 1)) b f) _ _ _
      rw [hl]
      refine draw_own_end b Ee hf hh as (pre ++ [x]) rest { s with heap := h2 } Q (by simpa using hr) (by simpa using hz) ap' (fun c hc => hto c (List.mem_cons_of_mem _ hc)) (fun c hc => Src.keep (hat c (List.mem_cons_of_mem _ hc)) fun d o hd' e => ?_) hend' hTO2 fun h3 e k3 he => ?_
      · obtain ⟨q1, q2⟩ := hto c (List.mem_cons_of_mem _ hc)
        have dTO : d ≠ TO := by rcases hd' with rfl | rfl <;> assumption
        refine (sb2.2 d dTO).trans ((sb.2 d ?_).trans e)
        rcases hd' with rfl | rfl
        · exact (hd c hc).1
        · exact (hd c hc).2.1
      · exact hE h3 e (fun c o c1 hc z => k3 c o c1 (fun d hd' => hc d (List.mem_cons_of_mem _ hd')) ((sb2.2 c c1).trans ((sb.2 c (hc a (List.mem_cons_self ..))).trans z))) he
theorem zipN_first_end {z TI TO : Addr} {rest : List Value} {as : List Src} {i : Nat} {Q : Fin → Shared → Prop} (hh : A.handled = none) (D : ZApart z TI TO as)
    (hz : IsZip s.heap z TI TO .none) (hTI : s.heap.get? TI = some (tupO (as.map fun a => Value.ref a.it))) (hTO : s.heap.get? TO = some (tupO rest)) (ho : rest.length = as.length) (hn : rest.length ≤ sizeLine)
    (hat : ∀ a ∈ as, a.at i s.heap) (hend : ∃ a ∈ as, a.xs[i]? = none)
    (hE : ∀ h' e, (∀ c o, c ≠ z → c ≠ TO → (∀ a ∈ as, c ≠ a.it) → s.heap.get? c = some o → h'.get? c = some o) → (∃ o, h'.get? e = some o ∧ o.cls = .type "StopIteration") → E (.ref e) { s with heap := h' }) :
    wpAny (model prog w) A (Builtin.«zip.__next__» ⟨[.ref z], []⟩) Q E s := by
  show wpAny _ _ (field (.ref z) 2 >>= _) _ _ _
  refine wpAny_bind (wpAny_field hz rfl (x := .bool false) rfl ?_)
  show wpAny _ _ (field (.ref z) 3 >>= _) _ _ _
  refine wpAny_bind (wpAny_field hz rfl (x := .ref TI) rfl ?_)
  refine wpAny_bind (wpAny_seqItems hTI rfl ?_)
  have he : (as.map fun a => Value.ref a.it).toArray.isEmpty = false := by
    cases as with
    | nil => exact absurd rfl D.ne
    | cons a r => simp
  simp only [he, Bool.false_eq_true, if_false]
  refine wpAny_bind ?_
  unfold Builtin.SmallTypes.ownedTupleIsFree
  refine wpAny_bind (wpAny_field hz rfl (x := .none) rfl (wpAny_pure ?_))
  simp only [if_true]
  refine wpAny_bind (wpAny_rule ?_)
  refine wpAny_bind (wpAny_field hz rfl (x := .ref TO) rfl ?_)
  refine wpAny_bind (wpAny_setField_rec hz (by simp) fun h₁ hz₁ hs₁ => ?_)
  replace hz₁ : IsZip h₁ z TI TO .ellipsis := hz₁
  refine wpAny_bind ?_
  refine draw_own_end (TO := TO) (none, ()) (fun e s' => wpAny (model prog w) A (setField (.ref z) 0 .none) (fun _ s'' => E e s'') E s') (fun it k s Q h => ?_) hh as [] rest { s with heap := h₁ } _ ho hn D.ap (fun a ha => ⟨(D.zz a ha).2.2.2.1, (D.zz a ha).2.2.2.2⟩) (fun a ha => Src.keep (hat a ha) fun c o hc e => ?_) hend ((hs₁.2 TO D.TOz).trans hTO) (fun h₂ e k2 he => ?_)
  · refine wpAny_bind (wpAny_onRaise ?_)
    show wpAny _ _ (Builtin.SmallTypes.nextOf it >>= _) _ _ _
    refine wpAny_bind (wpAny_mono h (fun x s' q => ?_) fun _ _ z => z)
    obtain ⟨ows, q1, qz, q2⟩ := q
    refine wpAny_pure ?_
    refine wpAny_bind (wpAny_seqItems q1 rfl ?_)
    refine wpAny_bind ?_
    refine wpAny_updateSeq q1 rfl ?_ qz (by rw [Array.size_setIfInBounds]; omega)
    refine wpAny_bind (wpAny_letGo (wpAny_pure ?_))
    refine q2 _ ?_ (Heap.SameBut.update ..)
    rw [Heap.get?_update_self _ q1 rfl]
    simp [Obj.mapSeq]
  · refine (hs₁.2 c ?_).trans e
    obtain ⟨d1, d2, _⟩ := D.zz a ha
    rcases hc with rfl | rfl
    · exact d1
    · exact d2
  · have hz₂ : IsZip h₂ z TI TO .ellipsis := k2 z _ D.TOz.symm (fun a ha => (D.zz a ha).1.symm) hz₁
    refine wpAny_setField_rec hz₂ (by simp) fun h₃ _ hs₃ => hE h₃ e (fun c o c1 c2 c3 x => (hs₃.2 c c1).trans (k2 c o c2 c3 ((hs₁.2 c c1).trans x))) ?_
    obtain ⟨oe, e1, e2⟩ := he
    refine ⟨oe, (hs₃.2 e fun x => ?_).trans e1, e2⟩
    subst x
    rw [hz₂] at e1
    injection e1 with e1
    rw [← e1] at e2
    exact absurd e2 (by simp)
end
end Un
end
section
/-! Un: zip(..) of any number of lists and tuples is made; next of it. -/
namespace Un
open PySem PySem.Spec L2 PyProof.Rows
/-- a list or a tuple that stands -/
structure Seqn where
  l : Addr
  tup : Bool
  xs : Array Value
def Seqn.at (p : Seqn) (h : Heap) : Prop := if p.tup = true then h.IsTuple p.l p.xs else h.IsList p.l p.xs
def mkSrc : Nat → List Seqn → List Src
  | _, [] => []
  | n, p :: r => ⟨n, p.l, p.tup, p.xs⟩ :: mkSrc (n + 1) r
theorem Seqn.keep {p : Seqn} {h h' : Heap} (q : p.at h) (k : ∀ c o, h.get? c = some o → h'.get? c = some o) : p.at h' := by
  unfold Seqn.at at q ⊢
  split at q
  · rename_i ht
    rw [if_pos ht]
    obtain ⟨o, e, r⟩ := q
    exact ⟨o, k _ _ e, r⟩
  · rename_i ht
    rw [if_neg ht]
    obtain ⟨o, e, r⟩ := q
    exact ⟨o, k _ _ e, r⟩
theorem Seqn.lt {p : Seqn} {h : Heap} (q : p.at h) : p.l < h.objs.size := by
  unfold Seqn.at at q
  split at q <;> obtain ⟨o, e, r⟩ := q <;> exact Heap.lt_size e
theorem mk_mem {n : Nat} : ∀ {ps : List Seqn} {m : Nat} {a : Src}, a ∈ mkSrc m ps → m ≤ a.it ∧ a.it < m + ps.length ∧ ∃ p ∈ ps, a.l = p.l ∧ a.tup = p.tup ∧ a.xs = p.xs
  | [], m, a, h => nomatch h
  | p :: ps, m, a, h => by
    rcases List.mem_cons.mp h with rfl | h
    · exact ⟨Nat.le_refl _, by simp, p, List.mem_cons_self .., rfl, rfl, rfl⟩
    · obtain ⟨h1, h2, q, hq, r⟩ := mk_mem (n := n) h
      have e : (p :: ps).length = ps.length + 1 := rfl
      exact ⟨Nat.le_of_succ_le h1, by rw [e]; exact Nat.lt_of_lt_of_le h2 (Nat.le_of_eq (Nat.add_right_comm m 1 ps.length)), q, List.mem_cons_of_mem _ hq, r⟩
theorem mk_nodup : ∀ (ps : List Seqn) (m : Nat), ((mkSrc m ps).map (·.it)).Nodup
  | [], _ => List.nodup_nil
  | p :: ps, m => by
    show (m :: (mkSrc (m + 1) ps).map (·.it)).Nodup
    refine List.nodup_cons.mpr ⟨fun h => ?_, mk_nodup ps (m + 1)⟩
    obtain ⟨a, ha, e⟩ := List.mem_map.mp h
    have := (mk_mem (n := 0) ha).1
    omega
theorem mk_len : ∀ (ps : List Seqn) (m : Nat), (mkSrc m ps).length = ps.length
  | [], _ => rfl
  | p :: ps, m => by
    show (mkSrc (m + 1) ps).length + 1 = ps.length + 1
    rw [mk_len ps]
section
variable {prog : Program} {w : World} {A : Around} {E : Value → Shared → Prop} {s : Shared}
theorem Seqn.iter {p : Seqn} {Q : Value → Shared → Prop} (q : p.at s.heap)
    (hQ : ∀ h', (Src.mk s.heap.objs.size p.l p.tup p.xs).at 0 h' → (∀ c o, s.heap.get? c = some o → h'.get? c = some o) → h'.objs.size = s.heap.objs.size + 1 → Q (.ref s.heap.objs.size) { s with heap := h' }) : wpAny (model prog w) A (pyIter (.ref p.l)) Q E s := by
  have q0 := q
  unfold Seqn.at at q
  split at q
  · rename_i ht
    refine wpAny_pyIter_tuple q (hQ _ ?_ (fun c o e => Heap.get?_push_of_some _ e) (Heap.size_push ..))
    unfold Src.at
    rw [if_pos ht]
    exact ⟨⟨_, Heap.get?_push_size _ rfl, rfl, rfl⟩, q.push _⟩
  · rename_i ht
    refine wpAny_pyIter_list q (hQ _ ?_ (fun c o e => Heap.get?_push_of_some _ e) (Heap.size_push ..))
    unfold Src.at
    rw [if_neg ht]
    exact ⟨⟨_, Heap.get?_push_size _ rfl, rfl, rfl⟩, q.push _⟩
theorem iter_all {f : Value → Array Value → Sem (ForInStep (Array Value))}
    (hf : ∀ (x : Value) (b : Array Value) (s : Shared) (Q : ForInStep (Array Value) → Shared → Prop), wpAny (model prog w) A (pyIter x) (fun u s' => Q (.yield (b.push u)) s') E s → wpAny (model prog w) A (f x b) Q E s) :
    ∀ (ps : List Seqn) (b : Array Value) (s : Shared) (Q : Array Value → Shared → Prop), (∀ p ∈ ps, p.at s.heap) →
      (∀ h', (∀ a ∈ mkSrc s.heap.objs.size ps, a.at 0 h') → (∀ c o, s.heap.get? c = some o → h'.get? c = some o) → h'.objs.size = s.heap.objs.size + ps.length → Q (b ++ ((mkSrc s.heap.objs.size ps).map fun a => Value.ref a.it).toArray) { s with heap := h' }) →
      wpAny (model prog w) A (forIn (ps.map fun p => Value.ref p.l) b f) Q E s
  | [], b, s, Q, _, hQ => by
    show wpAny _ _ (forIn [] b f) _ _ _
    rw [List.forIn_nil]
    refine wpAny_pure ?_
    have := hQ s.heap (fun _ z => nomatch z) (fun _ _ e => e) rfl
    simpa [mkSrc] using this
  | p :: ps, b, s, Q, hat, hQ => by
    rw [List.map_cons, List.forIn_cons]
    refine wpAny_bind (hf _ _ _ _ (Seqn.iter (hat p (List.mem_cons_self ..)) fun h1 h1a k1 z1 => ?_))
    refine iter_all hf ps _ { s with heap := h1 } Q (fun c hc => Seqn.keep (hat c (List.mem_cons_of_mem _ hc)) k1) fun h2 h2a k2 z2 => ?_
    have z2' : h2.objs.size = h1.objs.size + ps.length := z2
    have h2a' : ∀ a ∈ mkSrc h1.objs.size ps, a.at 0 h2 := h2a
    show Q (b.push (Value.ref s.heap.objs.size) ++ ((mkSrc h1.objs.size ps).map fun a => Value.ref a.it).toArray) _
    rw [z1] at h2a' z2' ⊢
    have := hQ h2 (fun a ha => by
      rcases List.mem_cons.mp ha with rfl | ha
      · exact Src.keep h1a fun c o _ e => k2 c o e
      · exact h2a' a ha) (fun c o e => k2 c o (k1 c o e)) (by rw [z2', List.length_cons]; omega)
    simpa [mkSrc] using this
end
theorem meets_zipN (ps : List Seqn) (hn : ps.length ≤ 100) : Meets (Builtin.«zip.__new__» ⟨.type "zip" :: ps.map fun p => Value.ref p.l, []⟩) (fun _ R s => (∀ p ∈ ps, p.at s.heap) ∧
      ∀ h' z TI TO, IsZip h' z TI TO .none → h'.get? TI = some (tupO ((mkSrc s.heap.objs.size ps).map fun a => Value.ref a.it)) → h'.get? TO = some (tupO ((mkSrc s.heap.objs.size ps).map fun _ => Value.none)) →
        (∀ a ∈ mkSrc s.heap.objs.size ps, a.at 0 h') → (∀ c o, s.heap.get? c = some o → h'.get? c = some o) → TI = s.heap.objs.size + ps.length → TO = s.heap.objs.size + ps.length + 1 → z = s.heap.objs.size + ps.length + 2 → h'.objs.size = s.heap.objs.size + ps.length + 3 →
        R (.ok (.ret (.ref z))) { s with heap := h' }) :=
  .of_wp fun prog w A R s h => by
    obtain ⟨hp, g, d, tk, os⟩ := s
    obtain ⟨hat, h⟩ := h
    have hsub := PySem.sub_zip
    unfold Builtin.«zip.__new__»
    repeat (any_goals (first | assumption | wp_step))
    show wpAny _ _ (forIn (ps.map fun p => Value.ref p.l) (#[] : Array Value) fun x its => do
      let u ← holding its.toList (pyIter x)
      pure (ForInStep.yield (its.push u))) _ _ _
    refine iter_all (fun x b s Q hq => wpAny_bind (wpAny_holding (wpAny_mono hq (fun u s' q => wpAny_pure q) fun _ _ z => z))) ps #[] ⟨hp, g, d, tk, os⟩ _ hat fun h1 ha k1 z1 => ?_
    have el : ((#[] : Array Value) ++ ((mkSrc hp.objs.size ps).map fun a => Value.ref a.it).toArray).toList = (mkSrc hp.objs.size ps).map fun a => Value.ref a.it := by simp
    refine wpAny_pure ?_
    show wpAny _ _ (do
      let t1 ← newTuple ((#[] : Array Value) ++ ((mkSrc hp.objs.size ps).map fun a => Value.ref a.it).toArray).toList
      let t2 ← newTuple ((((#[] : Array Value) ++ ((mkSrc hp.objs.size ps).map fun a => Value.ref a.it).toArray).toList).map fun _ => Value.none)
      let r ← Builtin.SmallTypes.newRecord (Value.type "zip") (Builtin.SmallTypes.ownedTupleFields ++ [Value.bool false, t1, t2])
      ret r) _ _ _
    rw [el, List.map_map]
    have hlen : ((mkSrc hp.objs.size ps).map fun a => Value.ref a.it).length ≤ sizeLine := by rw [List.length_map, mk_len, sizeLine_eq]; omega
    refine wpAny_bind (wpAny_newTuple (hsz := hlen) ?_)
    refine wpAny_bind (wpAny_newTuple (hsz := by rw [List.length_map, mk_len, sizeLine_eq]; omega) ?_)
    show wpAny _ _ (newObj (Value.type "zip") (Data.fields #[Value.none, Value.bool false, Value.bool false, Value.ref h1.objs.size, Value.ref (h1.push (tupO ((mkSrc hp.objs.size ps).map fun a => Value.ref a.it))).objs.size]) >>= fun r => ret r) _ _ _
    refine wpAny_bind (wpAny_newObj_type ?_)
    refine wpAny_pure ⟨_, rfl, ?_⟩
    have z1' : h1.objs.size = hp.objs.size + ps.length := z1
    refine h _ _ h1.objs.size _ (Heap.get?_push_size _ rfl) (Heap.get?_push_of_some _ (Heap.get?_push_of_some _ (Heap.get?_push_size _ rfl))) (Heap.get?_push_of_some _ (Heap.get?_push_size _ ?_)) (fun a h2 => Src.keep (ha a h2) fun c o _ e => Heap.get?_push_of_some _ (Heap.get?_push_of_some _ (Heap.get?_push_of_some _ e)))
      (fun c o e => Heap.get?_push_of_some _ (Heap.get?_push_of_some _ (Heap.get?_push_of_some _ (k1 c o e)))) z1' ?_ ?_ ?_
    · rfl
    · rw [Heap.size_push, z1']
    · rw [Heap.size_push, Heap.size_push, z1']
    · rw [Heap.size_push, Heap.size_push, Heap.size_push, z1']
/-- zip(..) -/
theorem call_zipN {prog : Program} {w : World} {A : Around} {E : Value → Shared → Prop} {s : Shared} {ps : List Seqn} {Q : Value → Shared → Prop} (hn : ps.length ≤ 100)
    (hct : checkTypeCall "zip" ⟨ps.map fun p => Value.ref p.l, []⟩ = pure ()) (hcn : checkBuiltinCall "zip.__new__" ⟨.type "zip" :: ps.map fun p => Value.ref p.l, []⟩ = pure ())
    (hok : ∀ obj, argsOk "object.__init__" ⟨obj :: ps.map fun p => Value.ref p.l, []⟩) (hat : ∀ p ∈ ps, p.at s.heap)
    (h : ∀ h' z TI TO, IsZip h' z TI TO .none → h'.get? TI = some (tupO ((mkSrc s.heap.objs.size ps).map fun a => Value.ref a.it)) → h'.get? TO = some (tupO ((mkSrc s.heap.objs.size ps).map fun _ => Value.none)) →
        (∀ a ∈ mkSrc s.heap.objs.size ps, a.at 0 h') → (∀ c o, s.heap.get? c = some o → h'.get? c = some o) → TI = s.heap.objs.size + ps.length → TO = s.heap.objs.size + ps.length + 1 → z = s.heap.objs.size + ps.length + 2 → h'.objs.size = s.heap.objs.size + ps.length + 3 →
        Q (.ref z) { s with heap := h' }) : wpAny (model prog w) A (call (.type "zip") (ps.map fun p => Value.ref p.l)) Q E s :=
  callType_new PySem.F.called_zip (by decide) hct hcn hok PySem.F.entry_zip_new (meets_zipN ps hn) ⟨hat, fun h' z TI TO a1 a2 a3 a4 a5 a6 a7 a8 a9 => ⟨⟨_, a1, rfl⟩, h h' z TI TO a1 a2 a3 a4 a5 a6 a7 a8 a9⟩⟩
end Un
end
section
/-! Un: the zip of n lists or tuples as an iterator: where it stands, next of it. -/
namespace Un
open PySem PySem.Spec L2 PyProof.Rows
/-- the zip has given i items; the first one stands at T -/
def ZipAt (z TI TO : Addr) (as : List Src) (i : Nat) (T : Addr) (h : Heap) : Prop :=
  (if i = 0 then IsZip h z TI TO .none ∧ ∃ rest, h.get? TO = some (tupO rest) ∧ rest.length = as.length else ∃ f, IsZipHeld h z TI TO T f) ∧
    h.get? TI = some (tupO (as.map fun a => Value.ref a.it)) ∧ ∀ a ∈ as, a.at i h
section
variable {prog : Program} {w : World} {A : Around} {E : Value → Shared → Prop} {s : Shared}
theorem zip_next {z TI TO T : Addr} {as : List Src} {us : List Value} {i : Nat} {Q : Option Value → Shared → Prop} (D : ZApart z TI TO as) (q : ZipAt z TI TO as i T s.heap)
    (hT : i ≠ 0 → ∃ o, s.heap.get? T = some o) (hu : Paired (fun a u => a.xs[i]? = some u) as us) (hn : us.length ≤ sizeLine)
    (hQ : ∀ h', ZipAt z TI TO as (i + 1) (if i = 0 then s.heap.objs.size else T) h' → h'.get? s.heap.objs.size = some (tupO us) → h'.objs.size = s.heap.objs.size + 1 →
      (∀ c o, c ≠ z → c ≠ TO → (∀ a ∈ as, c ≠ a.it) → s.heap.get? c = some o → h'.get? c = some o) → Q (some (.ref s.heap.objs.size)) { s with heap := h' }) : wpAny (model prog w) A (pyNext (.ref z)) Q E s := by
  obtain ⟨q1, q2, q3⟩ := q
  by_cases hi : i = 0
  · subst hi
    rw [if_pos rfl] at q1
    obtain ⟨hz, rest, hTO, ho⟩ := q1
    have hTy : s.TypeIs (.ref z) "zip" := ⟨_, hz, rfl⟩
    unfold pyNext
    refine wpAny_bind (wpAny_attempt (wpAny_callSpecial?_slot (name := Str.ofString "__next__") hTy PySem.F.slot_zip_next
      (wpAny_call_entry PySem.F.slot_zip_next hTy PySem.F.entry_zip_next
        (zipN_first D hz q2 hTO ho q3 hu hn fun h' a1 a2 a3 a4 a5 => wpAny_pure (hQ h' ⟨?_, ?_, a2⟩ a3 a4 a5)) (PySem.F.args_zip_next_1 _))))
    · rw [if_neg (by omega), if_pos rfl]
      exact ⟨false, a1⟩
    · exact a5 TI _ D.TIz D.TITO (fun a ha => (D.zz a ha).2.2.1.symm) q2
  · rw [if_neg hi] at q1
    obtain ⟨f, hz⟩ := q1
    obtain ⟨oT, hT⟩ := hT hi
    have hTy : s.TypeIs (.ref z) "zip" := ⟨_, hz, rfl⟩
    unfold pyNext
    refine wpAny_bind (wpAny_attempt (wpAny_callSpecial?_slot (name := Str.ofString "__next__") hTy PySem.F.slot_zip_next
      (wpAny_call_entry PySem.F.slot_zip_next hTy PySem.F.entry_zip_next
        (zipN_next_held D hz hT q2 q3 hu hn fun h' a1 a2 a3 a4 a5 => wpAny_pure (hQ h' ⟨?_, ?_, a2⟩ a3 a4 fun c o c1 _ c3 e => a5 c o c1 c3 e)) (PySem.F.args_zip_next_1 _))))
    · rw [if_neg (by omega), if_neg hi]
      exact ⟨true, a1⟩
    · exact a5 TI _ D.TIz (fun a ha => (D.zz a ha).2.2.1.symm) q2
theorem zip_stop {z TI TO T : Addr} {as : List Src} {i : Nat} {Q : Option Value → Shared → Prop} (hh : A.handled = none) (D : ZApart z TI TO as) (hl : as.length ≤ sizeLine) (q : ZipAt z TI TO as i T s.heap)
    (hT : i ≠ 0 → ∃ o, s.heap.get? T = some o) (hend : ∃ a ∈ as, a.xs[i]? = none)
    (hQ : ∀ h', (∀ c o, c ≠ z → c ≠ TO → (∀ a ∈ as, c ≠ a.it) → s.heap.get? c = some o → h'.get? c = some o) → Q none { s with heap := h' }) : wpAny (model prog w) A (pyNext (.ref z)) Q E s := by
  obtain ⟨q1, q2, q3⟩ := q
  have fin : ∀ h' e, (∀ c o, c ≠ z → c ≠ TO → (∀ a ∈ as, c ≠ a.it) → s.heap.get? c = some o → h'.get? c = some o) → (∃ o, h'.get? e = some o ∧ o.cls = .type "StopIteration") →
      wpAny (model prog w) A (isInstance (.ref e) (.type "StopIteration")) (fun b s' => b = true ∧ Q none s') (fun _ _ => False) { s with heap := h' } := fun h' e k he => by
    obtain ⟨o, ho, hc⟩ := he
    exact wpAny_isInstance (T := "StopIteration") (b := true) ⟨o, ho, hc⟩ isSubtype_stop ⟨rfl, hQ _ k⟩
  by_cases hi : i = 0
  · subst hi
    rw [if_pos rfl] at q1
    obtain ⟨hz, rest, hTO, ho⟩ := q1
    have hTy : s.TypeIs (.ref z) "zip" := ⟨_, hz, rfl⟩
    unfold pyNext
    refine wpAny_bind (wpAny_attempt (wpAny_callSpecial?_slot (name := Str.ofString "__next__") hTy PySem.F.slot_zip_next
      (wpAny_call_entry PySem.F.slot_zip_next hTy PySem.F.entry_zip_next (zipN_first_end hh D hz q2 hTO ho (by rw [ho]; exact hl) q3 hend fun h' e k he => ?_) (PySem.F.args_zip_next_1 _))))
    obtain ⟨o, ho, hc⟩ := he
    exact wpAny_bind (wpAny_isInstance (T := "StopIteration") (b := true) ⟨o, ho, hc⟩ isSubtype_stop (wpAny_pure (hQ _ k)))
  · rw [if_neg hi] at q1
    obtain ⟨f, hz⟩ := q1
    obtain ⟨oT, hT⟩ := hT hi
    have hTy : s.TypeIs (.ref z) "zip" := ⟨_, hz, rfl⟩
    unfold pyNext
    refine wpAny_bind (wpAny_attempt (wpAny_callSpecial?_slot (name := Str.ofString "__next__") hTy PySem.F.slot_zip_next
      (wpAny_call_entry PySem.F.slot_zip_next hTy PySem.F.entry_zip_next (zipN_end_held hh D hz hT q2 q3 hend fun h' e k he => ?_) (PySem.F.args_zip_next_1 _))))
    obtain ⟨o, ho, hc⟩ := he
    exact wpAny_bind (wpAny_isInstance (T := "StopIteration") (b := true) ⟨o, ho, hc⟩ isSubtype_stop (wpAny_pure (hQ _ fun c o c1 _ c3 e => k c o c1 c3 e)))
end
end Un
end
section
/-! Un: list(zip(..)) with the abstract heap. -/
namespace Un
open PySem PySem.Spec L2 PyProof.Rows
/-- the tuples at vs are the rows -/
def RowsAt (H0 H : Hp) (rows : Nat → List V) (vs : List V) : Prop := ∀ (j : Nat) v, vs[j]? = some v → ∃ a, v = .ref a ∧ H0 a = none ∧ H a = some (.tup (rows j))
def LzSt (X : Cx) (pins : List (Addr × Obj)) (σ : L2.St) (H0 : Hp) (z TI TO S : Addr) (as : List Src) (rows : Nat → List V) (i : Nat) (acc : Array Value) (s : Shared) : Prop :=
  ∃ (H : Hp) (T : Addr) (vs : List V), Inv X pins σ H s ∧ (∀ c, (c = z ∨ c = TO ∨ ∃ a ∈ as, c = a.it) → FpOk X pins H c ∧ c < s.heap.objs.size) ∧ ZipAt z TI TO as i T s.heap ∧ (i ≠ 0 → ∃ xs, H T = some (.tup xs)) ∧ H S = some (.lst vs) ∧ (∃ c, s.heap.get? S = some (lstO acc c)) ∧ acc.size = i ∧ Vals vs acc.toList ∧
    RowsAt H0 H rows vs ∧ Same H0 H ∧ (∀ a, H a ≠ none → H0 a = none → a = S ∨ ∃ xs, H a = some (.tup xs))
theorem fp_up {X : Cx} {pins : List (Addr × Obj)} {H : Hp} {c p : Addr} {o : HO} (h : FpOk X pins H c) (hp : c ≠ p) : FpOk X pins (upd H p o) c := ⟨by rw [upd_ne hp]; exact h.1, h.2⟩
theorem ZipAt.keep {z TI TO T : Addr} {as : List Src} {i : Nat} {h h' : Heap} (q : ZipAt z TI TO as i T h) (k : ∀ c o, (c = z ∨ c = TI ∨ c = TO ∨ ∃ a ∈ as, c = a.it ∨ c = a.l) → h.get? c = some o → h'.get? c = some o) : ZipAt z TI TO as i T h' := by
  obtain ⟨q1, q2, q3⟩ := q
  refine ⟨?_, k _ _ (.inr (.inl rfl)) q2, fun a ha => Src.keep (q3 a ha) fun c o hc e => k c o (.inr (.inr (.inr ⟨a, ha, hc⟩))) e⟩
  split at q1
  · rename_i hi
    rw [if_pos hi]
    obtain ⟨a1, r, a2, a3⟩ := q1
    exact ⟨k _ _ (.inl rfl) a1, r, k _ _ (.inr (.inr (.inl rfl))) a2, a3⟩
  · rename_i hi
    rw [if_neg hi]
    obtain ⟨f, a1⟩ := q1
    exact ⟨f, k _ _ (.inl rfl) a1⟩
theorem lz_fills {X : Cx} {pins : List (Addr × Obj)} {σ : L2.St} {H0 : Hp} {z TI TO S : Addr} {as : List Src} {rows : Nat → List V} {n : Nat} {A : Around} (hh : A.handled = none) (D : ZApart z TI TO as) (hl : as.length ≤ sizeLine) (hn : n < sizeLine)
    (hS : S ≠ z ∧ S ≠ TO ∧ S ≠ TI ∧ ∀ a ∈ as, S ≠ a.it ∧ S ≠ a.l)
    (hS0 : H0 S = none) (hrow : ∀ i, i < n → ∃ us, Paired (fun a u => a.xs[i]? = some u) as us ∧ Vals (rows i) us) (hend : ∃ a ∈ as, a.xs[n]? = none) :
    Fills X.prog X.w A z S n (LzSt X pins σ H0 z TI TO S as rows) (fun acc s' => ∃ (H : Hp) (vs : List V), Inv X pins σ H s' ∧ H S = some (.lst vs) ∧ vs.length = n ∧ RowsAt H0 H rows vs ∧ Same H0 H ∧ ∀ a, H a ≠ none → H0 a = none → a = S ∨ ∃ xs, H a = some (.tup xs)) where
  lst := fun i acc s q => by
    obtain ⟨H, T, vs, I, fp, za, hT, hS1, hS2, hz, r, rw', sm, fr⟩ := q
    exact ⟨hz, hS2⟩
  item := fun i acc s Q E hi q hQ => by
    obtain ⟨H, T, vs, I, fp, za, hT, hS1, ⟨c0, hS2⟩, hz, r, rw', sm, fr⟩ := q
    obtain ⟨us, hu, hv⟩ := hrow i hi
    have hlu : us.length ≤ sizeLine := by rw [← Paired.length hu]; exact hl
    refine zip_next D za (fun h0 => ?_) hu hlu fun h' za' hT' sz k => ?_
    · obtain ⟨o, e⟩ := hT h0
      obtain ⟨_, _, _, o, h1, _⟩ := (show ObjOk X.prog X.w H s.heap T (.tup o) from I.hok T _ e)
      exact ⟨o, h1⟩
    · have chm : ∀ b, b ∈ z :: TO :: as.map (·.it) → b = z ∨ b = TO ∨ ∃ a ∈ as, b = a.it := fun b hb => by
        simp only [List.mem_cons, List.mem_map] at hb
        rcases hb with rfl | rfl | ⟨a, ha, rfl⟩
        · exact .inl rfl
        · exact .inr (.inl rfl)
        · exact .inr (.inr ⟨a, ha, rfl⟩)
      have kk : ∀ b o, b ∉ z :: TO :: as.map (·.it) → s.heap.get? b = some o → h'.get? b = some o := fun b o hb e => k b o (fun x => hb (by simp [x])) (fun x => hb (by simp [x])) (fun a ha x => hb (by simp only [List.mem_cons, List.mem_map]; exact .inr (.inr ⟨a, ha, x.symm⟩))) e
      have hlr : (rows i).length ≤ sizeLine := by rw [hv.length]; exact hlu
      have new : ObjOk X.prog X.w (upd H s.heap.objs.size (.tup (rows i))) h' s.heap.objs.size (.tup (rows i)) := ⟨hlr, us, hv, ⟨_, hT', rfl, _, rfl⟩⟩
      have I1 : Inv X pins σ (upd H s.heap.objs.size (.tup (rows i))) { s with heap := h' } := I.turnedNew (t' := s.toks) (ch := z :: TO :: as.map (·.it)) kk (fun b hb => (fp b (chm b hb)).1) (Nat.le_refl _) new
      have hp : H s.heap.objs.size = none := I.hok.fresh (Nat.le_refl _)
      have hSp : S ≠ s.heap.objs.size := ne_of_none hS1 hp
      have hS3 : h'.get? S = some (lstO acc c0) := k S _ hS.1 hS.2.1 (fun a ha => (hS.2.2.2 a ha).1) hS2
      have eS : (upd H s.heap.objs.size (.tup (rows i))) S = some (.lst vs) := by rw [upd_ne hSp]; exact hS1
      have hS4 := Heap.get?_update_self (Obj.mapSeq (·.push (Value.ref s.heap.objs.size))) hS3 rfl
      obtain ⟨c1, hS5⟩ : ∃ c1, (h'.update S (Obj.mapSeq (·.push (Value.ref s.heap.objs.size)))).get? S = some (lstO (acc.push (Value.ref s.heap.objs.size)) c1) := ⟨_, hS4⟩
      have oth : ∀ b u, b ≠ S → h'.get? b = some u → (h'.update S (Obj.mapSeq (·.push (Value.ref s.heap.objs.size)))).get? b = some u := fun b u hb e => (Heap.get?_update_other _ _ (Ne.symm hb)).trans e
      have r2 : Vals (vs ++ [.ref s.heap.objs.size]) (acc.push (Value.ref s.heap.objs.size)).toList := by
        rw [Array.toList_push]
        exact r.append (.cons rfl .nil)
      have I2 : Inv X pins σ (upd (upd H s.heap.objs.size (.tup (rows i))) S (.lst (vs ++ [.ref s.heap.objs.size]))) { s with heap := h'.update S (Obj.mapSeq (·.push (Value.ref s.heap.objs.size))) } := by
        refine I1.write (t' := s.toks) (x := S) (e := S) (o := .lst (vs ++ [.ref s.heap.objs.size])) (by rw [eS]; exact True.intro) (.inl rfl) oth ⟨_, hS5⟩ ⟨?_, (acc.push (Value.ref s.heap.objs.size)).toList, c1, r2, ?_⟩
        · have e1 : vs.length = i := r.length.trans (Array.length_toList.trans hz)
          rw [List.length_append, List.length_singleton, e1]
          omega
        · rw [hS5]
      refine hQ _ _ ⟨c0, hS3⟩ ⟨_, if i = 0 then s.heap.objs.size else T, _, I2, fun c hc => ?_, ?_, fun _ => ?_, upd_same, ⟨c1, hS5⟩, by rw [Array.size_push, hz], r2, fun j v hj => ?_, fun a o e => ?_, fun a h1 h2 => ?_⟩
      · have hcl := (fp c hc).2
        refine ⟨fp_up (fp_up (fp c hc).1 (Nat.ne_of_lt hcl)) ?_, ?_⟩
        · rcases hc with rfl | rfl | ⟨a, ha, rfl⟩
          · exact hS.1.symm
          · exact hS.2.1.symm
          · exact (hS.2.2.2 a ha).1.symm
        · show c < (h'.update S _).objs.size
          rw [Heap.size_update, sz]
          exact Nat.lt_succ_of_lt hcl
      · refine za'.keep fun c o hc e => oth c o ?_ e
        rcases hc with rfl | rfl | rfl | ⟨a, ha, rfl | rfl⟩
        · exact hS.1.symm
        · exact hS.2.2.1.symm
        · exact hS.2.1.symm
        · exact (hS.2.2.2 a ha).1.symm
        · exact (hS.2.2.2 a ha).2.symm
      · by_cases hi0 : i = 0
        · rw [if_pos hi0, upd_ne (Ne.symm hSp), upd_same]
          exact ⟨_, rfl⟩
        · rw [if_neg hi0]
          obtain ⟨xs, e⟩ := hT hi0
          have e1 : T ≠ S := fun x => by rw [x, hS1] at e; cases e
          rw [upd_ne e1, upd_ne (ne_of_none e hp)]
          exact ⟨xs, e⟩
      · have e1 : vs.length = i := r.length.trans (Array.length_toList.trans hz)
        by_cases hji : j < vs.length
        · rw [List.getElem?_append_left hji] at hj
          obtain ⟨a, rfl, ef, e⟩ := rw' j v hj
          have e2 : a ≠ S := fun x => by rw [x, hS1] at e; cases e
          exact ⟨a, rfl, ef, by rw [upd_ne e2, upd_ne (ne_of_none e hp)]; exact e⟩
        · rw [List.getElem?_append_right (by omega)] at hj
          have hj0 : j - vs.length = 0 := by
            have := (List.getElem?_eq_some_iff.mp hj).1
            simp at this
            omega
          rw [hj0] at hj
          cases hj
          have hji2 : j = i := by omega
          exact ⟨_, rfl, sm.free hp, by rw [upd_ne (Ne.symm hSp), upd_same, hji2]⟩
      · have e2 := sm a o e
        have e3 : a ≠ S := fun x => by rw [x, hS0] at e; cases e
        rw [upd_ne e3, upd_ne (ne_of_none e2 hp)]
        exact e2
      · by_cases ha : a = S
        · exact .inl ha
        · rw [upd_ne ha] at h1 ⊢
          by_cases hb : a = s.heap.objs.size
          · rw [hb, upd_same]
            exact .inr ⟨_, rfl⟩
          · rw [upd_ne hb] at h1 ⊢
            exact fr a h1 h2
  done := fun acc s Q E q hQ => by
    obtain ⟨H, T, vs, I, fp, za, hT, hS1, ⟨c0, hS2⟩, hz, r, rw', sm, fr⟩ := q
    refine zip_stop hh D hl za (fun h0 => ?_) hend fun h' k => hQ _ ⟨H, vs, ?_, hS1, ?_, rw', sm, fr⟩
    · obtain ⟨o, e⟩ := hT h0
      obtain ⟨_, _, _, o, h1, _⟩ := (show ObjOk X.prog X.w H s.heap T (.tup o) from I.hok T _ e)
      exact ⟨o, h1⟩
    · exact I.turnedL (t' := s.toks) (ch := z :: TO :: as.map (·.it)) (fun b o hb e => k b o (fun x => hb (by simp [x])) (fun x => hb (by simp [x])) (fun a ha x => hb (by simp only [List.mem_cons, List.mem_map]; exact .inr (.inr ⟨a, ha, x.symm⟩))) e) fun b hb => And.left (fp b (by
        simp only [List.mem_cons, List.mem_map] at hb
        rcases hb with rfl | rfl | ⟨a, ha, rfl⟩
        · exact .inl rfl
        · exact .inr (.inl rfl)
        · exact .inr (.inr ⟨a, ha, rfl⟩)))
    · rw [r.length, Array.length_toList]
      exact hz
end Un
end
section
/-! Un: list(zip(..)), the call. -/
namespace Un
open PySem PySem.Spec L2 PyProof.Rows
theorem zip_nolen : typeLookup (.type "zip") "__len__" = pure none := am_miss_of_fast (by decide +kernel)
theorem zip_nohint : typeLookup (.type "zip") "__length_hint__" = pure none := am_miss_of_fast (by decide +kernel)
theorem za_mk {s0 : Nat} {sq : List Seqn} (h0 : sq ≠ []) (hl : ∀ p ∈ sq, p.l < s0) : ZApart (s0 + sq.length + 2) (s0 + sq.length) (s0 + sq.length + 1) (mkSrc s0 sq) where
  ap := ⟨mk_nodup sq s0, fun a ha b hb => by
    obtain ⟨_, _, p, hp, e, _⟩ := mk_mem (n := 0) ha
    have h1 := (mk_mem (n := 0) hb).1
    have h2 := hl p hp
    rw [e]
    exact Nat.ne_of_lt (Nat.lt_of_lt_of_le h2 h1)⟩
  ne := fun z => h0 (by
    have := mk_len sq s0
    rw [z] at this
    exact List.length_eq_zero_iff.mp this.symm)
  zz := fun a ha => by
    obtain ⟨h1, h2, p, hp, e, _⟩ := mk_mem (n := 0) ha
    have h3 := hl p hp
    have h4 : a.l < s0 := by rw [e]; exact h3
    exact ⟨Nat.ne_of_lt (Nat.lt_of_lt_of_le h2 (by omega : s0 + sq.length ≤ s0 + sq.length + 2)), Nat.ne_of_lt (Nat.lt_of_lt_of_le h4 (by omega : s0 ≤ s0 + sq.length + 2)), Nat.ne_of_lt h2,
      Nat.ne_of_lt (Nat.lt_of_lt_of_le h2 (by omega : s0 + sq.length ≤ s0 + sq.length + 1)), Nat.ne_of_lt (Nat.lt_of_lt_of_le h4 (by omega : s0 ≤ s0 + sq.length + 1))⟩
  TIz := Nat.ne_of_lt (by omega)
  TOz := Nat.ne_of_lt (by omega)
  TITO := Nat.ne_of_lt (by omega)
theorem lz_core {X : Cx} {pins : List (Addr × Obj)} {σ : L2.St} {H : Hp} {s : Shared} {sq : List Seqn} {rows : Nat → List V} {n : Nat} {Q : Value → Shared → Prop} {E : Value → Shared → Prop} (I : Inv X pins σ H s) (hh : X.A.handled = none) (h0 : sq ≠ []) (hn : sq.length ≤ 100) (hn2 : n < sizeLine)
    (hct : checkTypeCall "zip" ⟨sq.map fun p => Value.ref p.l, []⟩ = pure ()) (hcn : checkBuiltinCall "zip.__new__" ⟨.type "zip" :: sq.map fun p => Value.ref p.l, []⟩ = pure ())
    (hok : ∀ obj, argsOk "object.__init__" ⟨obj :: sq.map fun p => Value.ref p.l, []⟩) (hat : ∀ p ∈ sq, p.at s.heap)
    (hrow : ∀ i, i < n → ∃ us, Paired (fun (p : Seqn) u => p.xs[i]? = some u) sq us ∧ Vals (rows i) us) (hend : ∃ p ∈ sq, p.xs[n]? = none)
    (hQ : ∀ S s' (H' : Hp) (vs : List V), Inv X pins σ H' s' → H S = none → H' S = some (.lst vs) → vs.length = n → RowsAt H H' rows vs → Same H H' → (∀ a, H' a ≠ none → H a = none → a = S ∨ ∃ xs, H' a = some (.tup xs)) → Q (.ref S) s') :
    wpAny (model X.prog X.w) X.A (call (.type "zip") (sq.map fun p => Value.ref p.l)) (fun u s1 => wpAny (model X.prog X.w) X.A (call (.type "list") [u]) Q E s1) E s := by
  have pm : ∀ (m : Nat) (ps : List Seqn) (i : Nat) (us : List Value), Paired (fun (p : Seqn) u => p.xs[i]? = some u) ps us → Paired (fun (a : Src) u => a.xs[i]? = some u) (mkSrc m ps) us := by
    intro m ps
    induction ps generalizing m with
    | nil => intro i us h; cases h; exact .nil
    | cons p ps ih => intro i us h; cases h with | cons h1 h2 => exact .cons h1 (ih (m + 1) i _ h2)
  have em : ∀ (m : Nat) (ps : List Seqn) (p : Seqn), p ∈ ps → ∃ a ∈ mkSrc m ps, a.xs = p.xs := by
    intro m ps
    induction ps generalizing m with
    | nil => intro p h; cases h
    | cons q ps ih =>
      intro p h
      rcases List.mem_cons.mp h with rfl | h
      · exact ⟨_, List.mem_cons_self .., rfl⟩
      · obtain ⟨a, ha, e⟩ := ih (m + 1) p h
        exact ⟨a, List.mem_cons_of_mem _ ha, e⟩
  refine call_zipN hn hct hcn hok hat fun h' z TI TO a1 a2 a3 a4 a5 a6 a7 a8 a9 => ?_
  have D : ZApart z TI TO (mkSrc s.heap.objs.size sq) := by
    rw [a6, a7, a8]
    exact za_mk (s0 := s.heap.objs.size) h0 fun p hp => Seqn.lt (hat p hp)
  have I1 : Inv X pins σ H { s with heap := h' } := I.kept (t' := s.toks) a5
  have hfr : ∀ c, s.heap.objs.size ≤ c → H c = none := fun c hc => I.hok.fresh hc
  have hge : ∀ c, (c = z ∨ c = TO ∨ ∃ a ∈ mkSrc s.heap.objs.size sq, c = a.it) → s.heap.objs.size ≤ c ∧ c < h'.objs.size := fun c hc => by
    rcases hc with rfl | rfl | ⟨a, ha, rfl⟩
    · exact ⟨by rw [a8]; exact Nat.le_trans (Nat.le_add_right _ _) (Nat.le_add_right _ _), Heap.lt_size a1⟩
    · exact ⟨by rw [a7]; exact Nat.le_trans (Nat.le_add_right _ _) (Nat.le_add_right _ _), Heap.lt_size a3⟩
    · exact ⟨(mk_mem (n := 0) ha).1, (Src.lt (a4 a ha)).1⟩
  refine list_of_it (s := { s with heap := h' }) (T := "zip") zip_nolen zip_nohint (by decide) (by decide) a1 rfl (fun B s' Q E e q => wpAny_pyIter_zip (f0 := .none) e q)
    (lz_fills (X := X) (pins := pins) (σ := σ) (H0 := H) (A := X.A.in1.in1) (S := h'.objs.size) (rows := rows) (by simp [hh]) D (by rw [mk_len, sizeLine_eq]; omega) hn2 ?_ (hfr _ (by rw [a9]; exact Nat.le_trans (Nat.le_add_right _ _) (Nat.le_add_right _ _))) (fun i hi => ?_) ?_) (Nat.le_of_lt hn2) (fun h'' c e1 e2 e3 => ?_) (fun s' acc hf => ?_)
  · exact ⟨Nat.ne_of_gt (Heap.lt_size a1), Nat.ne_of_gt (Heap.lt_size a3), Nat.ne_of_gt (Heap.lt_size a2), fun a ha => ⟨Nat.ne_of_gt (Src.lt (a4 a ha)).1, Nat.ne_of_gt (Src.lt (a4 a ha)).2⟩⟩
  · obtain ⟨us, h1, h2⟩ := hrow i hi
    exact ⟨us, pm _ _ _ _ h1, h2⟩
  · obtain ⟨p, hp, e⟩ := hend
    obtain ⟨a, ha, ea⟩ := em _ _ p hp
    exact ⟨a, ha, by rw [ea]; exact e⟩
  · have e3' : h''.objs.size = h'.objs.size + 1 := e3
    have hSn : H h'.objs.size = none := hfr _ (by rw [a9]; exact Nat.le_trans (Nat.le_add_right _ _) (Nat.le_add_right _ _))
    have I2 : Inv X pins σ (upd H h'.objs.size (.lst [])) { s with heap := h'' } := I1.laid (t' := s.toks) (a := h'.objs.size) (o := .lst []) e2 (Nat.le_refl _) ⟨Nat.zero_le _, [], c, .nil, e1⟩
    refine ⟨_, z, [], I2, fun c hc => ?_, ⟨?_, e2 _ _ a2, fun a ha => Src.keep (a4 a ha) fun c o _ e => e2 c o e⟩, fun z => absurd rfl z, upd_same, ⟨c, e1⟩, rfl, .nil, fun j v hj => ?_, fun a o e => ?_, fun a q1 q2 => ?_⟩
    · obtain ⟨g1, g2⟩ := hge c hc
      exact ⟨fp_up (I.fpOk g1 (hfr c g1)) (Nat.ne_of_lt g2), by show c < h''.objs.size; rw [e3']; exact Nat.lt_succ_of_lt g2⟩
    · rw [if_pos rfl]
      exact ⟨e2 _ _ a1, _, e2 _ _ a3, List.length_map ..⟩
    · simp at hj
    · have e4 : a ≠ h'.objs.size := ne_of_none e hSn
      rw [upd_ne e4]
      exact e
    · by_cases e4 : a = h'.objs.size
      · exact .inl e4
      · rw [upd_ne e4] at q1
        exact absurd q2 q1
  · obtain ⟨H', vs, J, b1, b2, b3, b4, b5⟩ := hf
    exact hQ _ _ H' vs J (hfr _ (by rw [a9]; exact Nat.le_trans (Nat.le_add_right _ _) (Nat.le_add_right _ _))) b1 b2 b3 b4 b5
end Un
end
section
/-! Un: list(zip(..)), the rule. -/
namespace Un
open PySem PySem.Spec L2 PyProof.Rows
/-- the checks of a call of zip with k arguments -/
def ZipK (k : Nat) : Prop := ∀ us : List Value, us.length = k → checkTypeCall "zip" ⟨us, []⟩ = pure () ∧ checkBuiltinCall "zip.__new__" ⟨.type "zip" :: us, []⟩ = pure () ∧ ∀ ob, argsOk "object.__init__" ⟨ob :: us, []⟩
theorem zipK2 : ZipK 2 := fun us h => by
  match us, h with
  | [a, b], _ => exact ⟨F.typeCall_zip_2 a b, F.newCall_zip_2 a b, fun ob => F.args_object_init_3 ob a b⟩
theorem zipK3 : ZipK 3 := fun us h => by
  match us, h with
  | [a, b, c], _ => exact ⟨by kernel_rfl, by kernel_rfl, fun ob => by
      unfold argsOk; rw [signature?_of (id := "object.__init__") (n := ['_', '_', 't', 'i', 'n', 'i', '_', '_']) (o := ['t', 'c', 'e', 'j', 'b', 'o']) (by kernel_rfl) F.owner_object]; kernel_rfl⟩
theorem zipK4 : ZipK 4 := fun us h => by
  match us, h with
  | [a, b, c, d], _ => exact ⟨by kernel_rfl, by kernel_rfl, fun ob => by
      unfold argsOk; rw [signature?_of (id := "object.__init__") (n := ['_', '_', 't', 'i', 'n', 'i', '_', '_']) (o := ['t', 'c', 'e', 'j', 'b', 'o']) (by kernel_rfl) F.owner_object]; kernel_rfl⟩
/-- a list or a tuple of the abstract heap -/
structure Sq where
  a : Addr
  tup : Bool
  xs : List V
def Sq.ok (K : PySem.W.Frag) (H : Hp) (p : Sq) : Prop := if p.tup = true then SqT K H p.a p.xs else SqL K H p.a p.xs
def rowOf (ps : List Sq) (i : Nat) : List V := ps.map fun p => (p.xs[i]?).getD .non
def tLz (K : PySem.W.Frag) (ta : TA) (k : Nat) : TE := fun σ H R => ta σ H fun vs H1 => ∃ (ps : List Sq) (n : Nat), vs = ps.map (fun p => V.ref p.a) ∧ ps.length = k ∧ n < sizeLine ∧ (∀ p ∈ ps, p.ok K H1) ∧ (∀ p ∈ ps, n ≤ p.xs.length) ∧ (∃ p ∈ ps, p.xs.length = n) ∧
  ∀ S (H' : Hp) ws, H1 S = none → H' S = some (.lst ws) → ws.length = n → RowsAt H1 H' (rowOf ps) ws → Same H1 H' → (∀ a, H' a ≠ none → H1 a = none → a = S ∨ ∃ xs, H' a = some (.tup xs)) → R (.ref S) H'
def SqAt (h : Heap) (p : Sq) (q : Seqn) : Prop := q.l = p.a ∧ Vals p.xs q.xs.toList ∧ q.at h
theorem sq_at {X : Cx} {pins : List (Addr × Obj)} {σ : L2.St} {H : Hp} {s : Shared} (I : Inv X pins σ H s) {p : Sq} (h : p.ok X.K H) : ∃ q, SqAt s.heap p q := by
  obtain ⟨a, tup, xs⟩ := p
  cases tup with
  | true =>
    obtain ⟨its, r, t, _⟩ := I.tuple (show SqT X.K H a xs from h)
    exact ⟨⟨a, true, its.toArray⟩, rfl, r, t⟩
  | false =>
    obtain ⟨its, r, t, _⟩ := I.list (show SqL X.K H a xs from h)
    exact ⟨⟨a, false, its.toArray⟩, rfl, r, t.isList⟩
theorem sqs_at {X : Cx} {pins : List (Addr × Obj)} {σ : L2.St} {H : Hp} {s : Shared} (I : Inv X pins σ H s) : ∀ {ps : List Sq}, (∀ p ∈ ps, p.ok X.K H) → ∃ qs, Paired (SqAt s.heap) ps qs
  | [], _ => ⟨[], .nil⟩
  | p :: ps, h => by
    obtain ⟨q, h1⟩ := sq_at I (h p (List.mem_cons_self ..))
    obtain ⟨qs, h2⟩ := sqs_at I fun p hp => h p (List.mem_cons_of_mem _ hp)
    exact ⟨q :: qs, .cons h1 h2⟩
theorem sqs_refs {h : Heap} : ∀ {ps : List Sq} {qs : List Seqn} {us : List Value}, Paired (SqAt h) ps qs → Vals (ps.map fun p => V.ref p.a) us → us = qs.map fun q => Value.ref q.l
  | [], _, us, .nil, r => by cases r; rfl
  | p :: ps, q :: qs, us, .cons h1 t, r => by
    cases r with
    | cons r1 r2 =>
      rw [sqs_refs t r2]
      rw [List.map_cons, h1.1]
      congr 1
theorem sqs_all {h : Heap} : ∀ {ps : List Sq} {qs : List Seqn}, Paired (SqAt h) ps qs → ∀ q ∈ qs, ∃ p ∈ ps, SqAt h p q
  | _, _, .nil, q, hq => nomatch hq
  | p :: ps, _ :: _, .cons h1 t, q, hq => by
    rcases List.mem_cons.mp hq with rfl | hq
    · exact ⟨p, List.mem_cons_self .., h1⟩
    · obtain ⟨p', hp, r⟩ := sqs_all t q hq
      exact ⟨p', List.mem_cons_of_mem _ hp, r⟩
theorem sqs_all' {h : Heap} : ∀ {ps : List Sq} {qs : List Seqn}, Paired (SqAt h) ps qs → ∀ p ∈ ps, ∃ q ∈ qs, SqAt h p q
  | _, _, .nil, q, hq => nomatch hq
  | _ :: _, q :: qs, .cons h1 t, p, hp => by
    rcases List.mem_cons.mp hp with rfl | hp
    · exact ⟨q, List.mem_cons_self .., h1⟩
    · obtain ⟨p', hp, r⟩ := sqs_all' t p hp
      exact ⟨p', List.mem_cons_of_mem _ hp, r⟩
theorem sqs_row {h : Heap} {i : Nat} : ∀ {ps : List Sq} {qs : List Seqn}, Paired (SqAt h) ps qs → (∀ p ∈ ps, i < p.xs.length) → ∃ us, Paired (fun (q : Seqn) u => q.xs[i]? = some u) qs us ∧ Vals (rowOf ps i) us
  | _, _, .nil, _ => ⟨[], .nil, .nil⟩
  | p :: ps, q :: qs, .cons h1 t, hl => by
    obtain ⟨us, g1, g2⟩ := sqs_row t fun p hp => hl p (List.mem_cons_of_mem _ hp)
    have e := List.getElem?_eq_getElem (hl p (List.mem_cons_self ..))
    obtain ⟨u, e1, e2⟩ := Vals.get h1.2.1 e
    refine ⟨u :: us, .cons (by rw [← Array.getElem?_toList]; exact e1) g1, ?_⟩
    show Vals ((p.xs[i]?).getD .non :: rowOf ps i) _
    rw [e]
    exact .cons e2 g2
theorem pe_lz {X : Cx} {es : List Expr} {e0 : Expr} {er : List Expr} {ta : TA} {k : Nat} {p pos p2 pos2 : Pos} (hc : X.calm = true) (hk : ZipK k) (k0 : k ≠ 0) (k1 : k ≤ 100) (hg : Gl X "list") (hm : X.mg "list" = none) (hg2 : Gl X "zip") (hm2 : X.mg "zip" = none) (ha : PA X (e0 :: er) ta)
    (na : starEach [.Call (.Name "zip" p2) (e0 :: er) [] pos2] X.env = (false, eval (.Call (.Name "zip" p2) (e0 :: er) [] pos2) X.env) :: starEach [] X.env)
    (hs : starEach (e0 :: er) X.env = (false, eval e0 X.env) :: starEach er X.env) (hpl : (backTo pos2 (starEach er X.env)).any (·.1) = false) :
    PE X (.Call (.Name "list" p) [.Call (.Name "zip" p2) (e0 :: er) [] pos2] [] pos) (tLz X.K ta k) := by
  refine ⟨fun pins s σ H Q I h => ?_⟩
  refine Call_ (ld_blt I hg hm boot_list (PyProof.Rows.callWith_type1 (args_cons (thn (Q := fun u s1 => wpAny (model X.prog X.w) X.A (call (.type "list") [u]) _ X.xe s1) ?_ fun u s1 hu => args_nil hu) na) na))
  refine Call_ (ld_blt I hg2 hm2 boot_zip (PyProof.Rows.callWith_type1 (thn (ha.run pos2 pins s σ H _ I h) fun us s1 ⟨vs, H1, I1, r1, q1⟩ => ?_) hs hpl))
  obtain ⟨ps, n, rfl, hl, hn, ok, hle, hend, q⟩ := q1
  obtain ⟨qs, pq⟩ := sqs_at I1 ok
  obtain rfl := sqs_refs pq r1
  have hlq : qs.length = k := by rw [← Paired.length pq]; exact hl
  obtain ⟨c1, c2, c3⟩ := hk (qs.map fun q => Value.ref q.l) (by rw [List.length_map]; exact hlq)
  refine lz_core (rows := rowOf ps) (n := n) I1 (I1.ok.hd hc) (fun z => k0 (by rw [← hlq, z]; rfl)) (by rw [hlq]; exact k1) hn c1 c2 c3 (fun q hq => ?_) (fun i hi => sqs_row pq fun p hp => Nat.lt_of_lt_of_le hi (hle p hp)) ?_ fun S s' H' ws J a1 a2 a3 a4 a5 a6 => ?_
  · obtain ⟨p, _, r⟩ := sqs_all pq q hq
    exact r.2.2
  · obtain ⟨p, hp, e⟩ := hend
    obtain ⟨q, hq, r⟩ := sqs_all' pq p hp
    refine ⟨q, hq, ?_⟩
    rw [← Array.getElem?_toList]
    exact List.getElem?_eq_none (by rw [← Vals.length r.2.1, e]; exact Nat.le_refl _)
  · exact ⟨.ref S, H', J, rfl, q S H' ws a1 a2 a3 a4 a5 a6⟩
end Un
end
section
/-! Un: list(zip(..)), what it stands for. -/
namespace Un
open PySem PySem.Spec L2 PyProof.Rows
/-- fixed from now on: what is new, but for S -/
def zHi (Hi H H' : Hp) (S : Addr) : Hp := fun a => match H a with
  | some _ => Hi a
  | none => if a = S then none else H' a
section
variable {K : PySem.W.Frag} {L : Loc} {B Hs Hi H H' : Hp} {S : Addr}
theorem zHi_old {a : Addr} {o : HO} (e : H a = some o) : zHi Hi H H' S a = Hi a := by unfold zHi; rw [e]
theorem zHi_new {a : Addr} (e : H a = none) (n : a ≠ S) : zHi Hi H H' S a = H' a := by unfold zHi; rw [e]; exact if_neg n
theorem zHi_self (e : H S = none) : zHi Hi H H' S S = none := by unfold zHi; rw [e]; exact if_pos rfl
theorem zHi_mono (s : Same Hi H) : Same Hi (zHi Hi H H' S) := fun a u e => by rw [zHi_old (s a u e)]; exact e
theorem zGrow (s : Same Hi H) (s' : Same H H') : Grow L Hi H (zHi Hi H H' S) H' where
  keep := fun a o e _ => s' a o e
  dom := fun a e => s'.free e
  mono := zHi_mono s
  sub := fun a u e => by
    cases q : H a with
    | some o =>
      rw [zHi_old q] at e
      exact s' a u (s a u e)
    | none =>
      by_cases n : a = S
      · rw [n, zHi_self (by rw [← n]; exact q)] at e
        cases e
      · rw [zHi_new q n] at e
        exact e
  fr := fun a h1 h2 => by
    cases q : H a with
    | none => rfl
    | some o =>
      rw [zHi_old q] at h1
      exact absurd h2 h1
theorem zOk (ok : L.ok H) (s' : Same H H') : L.ok H' := L.mono _ _ ok fun a ha => by
  cases q : H a with
  | none => exact absurd q (L.dom _ _ ok ha)
  | some o => exact s' a o q
theorem row_dq {i : Nat} : ∀ {ps : List Sq} {ds : List (List PyData)}, Two (fun (p : Sq) xs => DqAll K Hi p.xs xs) ps ds → (∀ p ∈ ps, i < p.xs.length) → DqAll K Hi (rowOf ps i) (rowD ds i)
  | _, _, .nil, _ => .nil
  | p :: ps, xs :: ds, .cons h t, hl => by
    have h1 := hl p (List.mem_cons_self ..)
    have h2 : i < xs.length := by rw [← h.len]; exact h1
    obtain ⟨v, e, d⟩ := h.get (List.getElem?_eq_getElem h2)
    show DqAll K Hi ((p.xs[i]?).getD .non :: rowOf ps i) ((xs[i]?).getD .none :: rowD ds i)
    rw [e, List.getElem?_eq_getElem h2]
    exact .cons d (row_dq t fun p hp => hl p (List.mem_cons_of_mem _ hp))
theorem dq_of_get : ∀ {vs : List V} {ds : List PyData}, vs.length = ds.length → (∀ (i : Nat) (v : V) (d : PyData), vs[i]? = some v → ds[i]? = some d → Dq K Hi v d) → DqAll K Hi vs ds
  | [], [], _, _ => .nil
  | v :: vs, d :: ds, h, f => .cons (f 0 v d rfl rfl) (dq_of_get (Nat.succ.inj h) fun i v d e1 e2 => f (i + 1) v d (by simpa using e1) (by simpa using e2))
/-- what list(zip(..)) gives, read -/
theorem lz_read {ps : List Sq} {ds : List (List PyData)} {n : Nat} {ws : List V} {k : KA} {Q : VK} (ha : After K L B H Hi H k Q) (hk : k (.new (zipD ds n))) (s : Same Hi H) (ok : L.ok H) (t : Two (fun (p : Sq) xs => DqAll K Hi p.xs xs) ps ds) (hl : ∀ p ∈ ps, n ≤ p.xs.length)
    (h1 : H S = none) (h2 : H' S = some (.lst ws)) (h3 : ws.length = n) (h4 : RowsAt H H' (rowOf ps) ws) (h5 : Same H H') : Q (.ref S) H' := by
  refine ha _ hk _ _ _ (zGrow (S := S) s h5) (zOk ok h5) ⟨S, ws, rfl, h1, zHi_self h1, h2, dq_of_get (by unfold zipD; rw [List.length_map, List.length_range]; exact h3) fun i v d e1 e2 => ?_⟩
  have hi : i < n := by rw [← h3]; exact (List.getElem?_eq_some_iff.mp e1).1
  have e3 : d = .tuple (rowD ds i) := by
    unfold zipD at e2
    rw [List.getElem?_map, List.getElem?_range hi] at e2
    exact (Option.some.inj e2).symm
  subst e3
  obtain ⟨a, rfl, f, e⟩ := h4 i v e1
  have ne : a ≠ S := fun x => by rw [x, h2] at e; cases e
  refine .tup (SqT.of ?_) (DqAll.mono (zHi_mono s) _ _ (row_dq t fun p hp => Nat.lt_of_lt_of_le hi (hl p hp)))
  rw [zHi_new f ne]
  exact e
end
end Un
end
section
/-! Un: list(zip(..)): from the meaning to the rule. -/
namespace Un
open PySem PySem.Spec L2 PyProof.Rows
theorem rowsL_two : ∀ {as : List AV} {dss : List (List PyData)}, rowsL as = some dss → Two (fun a xs => AV.rows? a = some xs) as dss
  | [], _, e => by cases e; exact .nil
  | a :: as, dss, e => by
    unfold rowsL at e
    split at e
    · rename_i xs r h1 h2
      cases e
      exact .cons h1 (rowsL_two h2)
    · cases e
section
variable {K : PySem.W.Frag} {l : Lay} {x : KX} {L : Loc} {B Hs Hi H : Hp} {σ : L2.St}
theorem AvOk.rows {v : V} {a : AV} {xs : List PyData} (h : AvOk K L B Hs Hi H v a) (s : Same Hi H) (e : AV.rows? a = some xs) : ∃ p : Sq, v = .ref p.a ∧ p.ok K H ∧ DqAll K Hi p.xs xs := by
  unfold AV.rows? at e
  split at e
  · rename_i ys e1
    cases e
    obtain ⟨p, vs, rfl, h1, d⟩ := h.list s e1
    exact ⟨⟨p, false, vs⟩, rfl, SqL.of h1, d⟩
  · rename_i ys e1
    cases e
    obtain ⟨p, vs, rfl, _, h1, d⟩ := h.tuple s e1
    exact ⟨⟨p, true, vs⟩, rfl, h1, d⟩
  · cases e
theorem ls_rows (s : Same Hi H) : ∀ {vs : List V} {as : List AV} {dss : List (List PyData)}, LsOk K L B Hs Hi H vs as → Two (fun a xs => AV.rows? a = some xs) as dss →
    ∃ ps : List Sq, vs = ps.map (fun p => V.ref p.a) ∧ (∀ p ∈ ps, p.ok K H) ∧ Two (fun (p : Sq) xs => DqAll K Hi p.xs xs) ps dss
  | _, _, _, .nil, .nil => ⟨[], rfl, (fun _ h => nomatch h), .nil⟩
  | _, _, _, .cons h _ t, .cons e t2 => by
    obtain ⟨p, rfl, h1, d⟩ := h.rows s e
    obtain ⟨ps, rfl, h2, d2⟩ := ls_rows s t t2
    refine ⟨p :: ps, rfl, fun q hq => ?_, .cons d d2⟩
    rcases List.mem_cons.mp hq with rfl | hq
    · exact h1
    · exact h2 q hq
theorem two_mem {α β : Type} {R : α → β → Prop} : ∀ {as : List α} {bs : List β}, Two R as bs → ∀ a ∈ as, ∃ b ∈ bs, R a b
  | _, _, .nil, _, h => nomatch h
  | _, _, .cons r t, a, h => by
    rcases List.mem_cons.mp h with rfl | h
    · exact ⟨_, List.mem_cons_self .., r⟩
    · obtain ⟨b, hb, q⟩ := two_mem t a h
      exact ⟨b, List.mem_cons_of_mem _ hb, q⟩
theorem two_mem' {α β : Type} {R : α → β → Prop} : ∀ {as : List α} {bs : List β}, Two R as bs → ∀ b ∈ bs, ∃ a ∈ as, R a b
  | _, _, .nil, _, h => nomatch h
  | _, _, .cons r t, a, h => by
    rcases List.mem_cons.mp h with rfl | h
    · exact ⟨_, List.mem_cons_self .., r⟩
    · obtain ⟨b, hb, q⟩ := two_mem' t a h
      exact ⟨b, List.mem_cons_of_mem _ hb, q⟩
theorem rd_zl {k0 : Nat} {f : List SV → (List AV → Prop) → Prop} {Q : VK} (hw : tV l x (fun ρ k => f ρ fun as => zlW k0 as k) σ H Q) : tLz l.K (tL l x f) k0 σ H Q := by
  obtain ⟨L, Hi0, B, Hi, ρ, k, s, hf, ha⟩ := hw
  refine ⟨L, Hi0, B, Hi, ρ, _, s, hf, fun as hp vs Hi1 H1 g1 ok1 hv => ?_⟩
  obtain ⟨dss, n, t0, hl, hn, h1, ⟨xs, h2, h3⟩, hk⟩ := hp
  have t := rowsL_two t0
  obtain ⟨ps, rfl, h4, t2⟩ := ls_rows g1.sub hv t
  have len : ∀ p ∈ ps, n ≤ p.xs.length := fun p hp => by
    obtain ⟨ys, hy, d⟩ := two_mem t2 p hp
    rw [d.len]
    exact h1 ys hy
  refine ⟨ps, n, rfl, ?_, hn, h4, len, ?_, fun S H' ws a1 a2 a3 a4 a5 _ => lz_read (ha.later g1 g1.dom) hk g1.sub ok1 t2 len a1 a2 a3 a4 a5⟩
  · rw [t2.len, ← t.len]
    exact hl
  · obtain ⟨p, hp, d⟩ := two_mem' t2 xs h2
    exact ⟨p, hp, by rw [d.len]; exact h3⟩
end
end Un
end
section
/-! Un: every phrase, by induction. -/
namespace Un
open PySem PySem.Spec L2
section
variable {nc : Nc} {fe : FE}
theorem ev_len0 {x : KX} : ∀ {E : E}, eLen E = 0 → ∀ ρ k, (ev fe x E).l ρ k → k [] := fun {E} h ρ k q => by
  cases E <;> first | exact q | (simp [eLen] at h; done) | exact q.elim
theorem ownOf_map (N : List Str) (own : List Nat) : (ownOf N own).map (·.2) = own := by
  unfold ownOf
  rw [List.map_map]
  exact List.map_id' own
theorem rng_ok {X : Cx} {sc : Scope} {l : Lay} (F : Fit X nc sc l fe) : X.mg "range" = none := blt_in F (by decide +kernel)
/-- nothing is asked of what is no value -/
theorem Snd.none' {X : Cx} {l : Lay} {x : KX} {d : D4} {sc : Scope} {c : Ck} (hv : ∀ e, c.v sc e = false) (ht : ∀ e, c.t sc e = false) (hi : ∀ tg e, c.i sc tg e = false) (ha : ∀ es, c.a sc es = true → PA X es (tL l x d.l)) (hk : ∀ ks, c.k sc ks = true → PK X ks (tL l x d.l)) (ho : ∀ e, c.o sc e = true → PO X e (tO l x d.o)) : Snd X l x d c sc :=
  ⟨fun e he => (by rw [hv] at he; cases he), fun e he => (by rw [ht] at he; cases he), ha, hk, fun tg e he => (by rw [hi] at he; cases he), ho⟩
theorem snd : ∀ (E : E) {X : Cx} {sc : Scope} {l : Lay} {x : KX}, Fit X nc sc l fe → Snd X l x (ev fe x E) (chk nc E) sc
  | .dat d, X, sc, l, x, F => Snd.ofV rfl F.K ⟨rfl, rfl, rfl⟩ fun e he => by
    rw [Bool.or_eq_true] at he
    rcases he with he | he
    · split at he
      · rename_i d' hd
        have e1 := same_eq _ _ he
        subst e1
        unfold asDat at hd
        split at hd <;> first | (cases hd; done) | (cases hd)
        · exact pe_int.imq fun σ H Q q => rd_dat (fun _ => .int _) q
        · exact pe_bl.imq fun σ H Q q => rd_dat (fun _ => .bl _) q
        · exact pe_non.imq fun σ H Q q => rd_dat (fun _ => .non) q
        · exact pe_str.imq fun σ H Q q => rd_dat (fun _ => .str _) q
      · cases he
    · split at he
      · rename_i y hy
        obtain ⟨p, rfl⟩ := asName_eq hy
        simp only [Bool.and_eq_true, List.any_eq_true, decide_eq_true_eq, Bool.not_eq_true'] at he
        obtain ⟨⟨hg, hdb⟩, c, hc, rfl, hs⟩ := he
        obtain ⟨u, v, h1, h2, h3⟩ := F.csts c hc
        have e1 := same_eq _ _ hs
        subst e1
        exact (pe_glob (F.gl hg) h1 h2 hdb).imq fun σ H Q q => rd_dat h3 q
      · cases he
  | .scr i, X, sc, l, x, F => Snd.ofV rfl F.K ⟨rfl, rfl, rfl⟩ fun e he => by
    unfold scrB at he
    split at he
    · rename_i y s hx
      obtain ⟨p, rfl⟩ := asSub_eq hx
      split at he
      · rename_i z k1 p1 hz hsl
        obtain ⟨p2, rfl⟩ := asName_eq hz
        obtain ⟨p3, rfl⟩ := asSlc_eq hsl
        unfold varB at he
        simp only [Bool.and_eq_true, decide_eq_true_eq, Bool.not_eq_true'] at he
        obtain ⟨⟨⟨h1, h2⟩, h3⟩, h4⟩ := he
        exact (pe_slice sl_list (pe_var (by rw [F.N]; exact h1) (F.vis h2) h3 h4) po_none (po_some pe_int)).imq fun σ H Q q => (by rw [F.K]; exact rd_scr q)
      · cases he
    · cases he
  | .var i, X, sc, l, x, F => Snd.ofV rfl F.K ⟨rfl, rfl, rfl⟩ fun e he => by
    split at he
    · rename_i y hy
      obtain ⟨p, rfl⟩ := asName_eq hy
      unfold varB at he
      simp only [Bool.and_eq_true, decide_eq_true_eq, Bool.not_eq_true'] at he
      obtain ⟨⟨⟨h1, h2⟩, h3⟩, h4⟩ := he
      exact (pe_var (by rw [F.N]; exact h1) (F.vis h2) h3 h4).imq fun σ H Q q => rd_var q
    · cases he
  | .bin o a b, X, sc, l, x, F => by
    have A := snd a (x := x) F
    have B := snd b (x := x) F
    have base : Snd X l x (ev fe x (.bin o a b)) (Ck.ofV fun sc e => binB o ((chk nc a).v sc) ((chk nc b).v sc) e) sc := Snd.ofV rfl F.K ⟨rfl, rfl, rfl⟩ (snd_bin F o A.v B.v)
    refine ⟨base.v, fun e he => ?_, base.a, base.k, base.i, base.o⟩
    replace he : ((plainT e && binB o ((chk nc a).v sc) ((chk nc b).v sc) e) || cmpB o ((chk nc a).v sc) ((chk nc b).v sc) e) = true := he
    rw [Bool.or_eq_true] at he
    rcases he with he | he
    · exact base.t e he
    · exact snd_cmpT F o A.v B.v e he
  | .un o a, X, sc, l, x, F => by
    have A := snd a (x := x) F
    have base : Snd X l x (ev fe x (.un o a)) (Ck.ofV fun sc e => unB nc sc o ((chk nc a).v sc) e) sc := Snd.ofV rfl F.K ⟨rfl, rfl, rfl⟩ (snd_un F o A.v)
    refine ⟨base.v, fun e he => ?_, base.a, base.k, base.i, base.o⟩
    replace he : ((plainT e && unB nc sc o ((chk nc a).v sc) e) || nonT o ((chk nc a).v sc) e) = true := he
    rw [Bool.or_eq_true] at he
    rcases he with he | he
    · exact base.t e he
    · cases o with
      | isN =>
        obtain ⟨b, k, p, q, rfl, hv⟩ := noneB_ok (op := .Is) he
        exact (pt_cmp (pc_isN (A.v b hv))).imq fun σ H Q q => rd_isNT q
      | notN =>
        obtain ⟨b, k, p, q, rfl, hv⟩ := noneB_ok (op := .IsNot) he
        exact (pt_cmp (pc_notN (A.v b hv))).imq fun σ H Q q => rd_notNT q
      | _ => cases he
  | .fn2 o a b, X, sc, l, x, F => Snd.ofV rfl F.K ⟨rfl, rfl, rfl⟩ (snd_fn2 F o (snd a (x := x) F).v (snd b (x := x) F).v)
  | .max3 a b c, X, sc, l, x, F => Snd.ofV rfl F.K ⟨rfl, rfl, rfl⟩ (snd_max3 F (snd a (x := x) F).v (snd b (x := x) F).v (snd c (x := x) F).v)
  | .band a b, X, sc, l, x, F => by
    have A := snd a (x := x) F
    have B := snd b (x := x) F
    have base : Snd X l x { ev fe x (.band a b) with t := fun ρ k => (ev fe x (.band a b)).v ρ fun p => truthW p k } (Ck.ofV fun sc e => boolB .And ((chk nc a).v sc) ((chk nc b).v sc) e) sc := Snd.ofV rfl F.K ⟨rfl, rfl, rfl⟩ fun e he => by
      obtain ⟨ea, eb, r, p, rfl, h1, h2⟩ := boolB_ok he
      cases r with
      | nil => exact (pe_and (A.v ea h1) (pe_one (B.v eb h2))).imq fun σ H Q q => rd_and q
      | cons y r => exact (pe_and (A.v ea h1) (B.v _ h2)).imq fun σ H Q q => rd_and q
    refine ⟨base.v, fun e he => ?_, base.a, base.k, base.i, base.o⟩
    obtain ⟨ea, eb, r, p, rfl, h1, h2⟩ := boolB_ok (op := .And) he
    cases r with
    | nil => exact ((pw_and (A.t ea h1) (pw_and1 (B.t eb h2))).pt).imq fun σ H Q q => rd_andT q
    | cons y r => exact ((pw_and (A.t ea h1) (pw_of (B.t _ h2))).pt).imq fun σ H Q q => rd_andT q
  | .bor a b, X, sc, l, x, F => by
    have A := snd a (x := x) F
    have B := snd b (x := x) F
    have base : Snd X l x { ev fe x (.bor a b) with t := fun ρ k => (ev fe x (.bor a b)).v ρ fun p => truthW p k } (Ck.ofV fun sc e => boolB .Or ((chk nc a).v sc) ((chk nc b).v sc) e) sc := Snd.ofV rfl F.K ⟨rfl, rfl, rfl⟩ fun e he => by
      obtain ⟨ea, eb, r, p, rfl, h1, h2⟩ := boolB_ok he
      cases r with
      | nil => exact (pe_or (A.v ea h1) (pe_one (B.v eb h2))).imq fun σ H Q q => rd_or q
      | cons y r => exact (pe_or (A.v ea h1) (B.v _ h2)).imq fun σ H Q q => rd_or q
    refine ⟨base.v, fun e he => ?_, base.a, base.k, base.i, base.o⟩
    obtain ⟨ea, eb, r, p, rfl, h1, h2⟩ := boolB_ok (op := .Or) he
    cases r with
    | nil => exact ((pw_or (A.t ea h1) (pw_or1 (B.t eb h2))).pt).imq fun σ H Q q => rd_orT q
    | cons y r => exact ((pw_or (A.t ea h1) (pw_of (B.t _ h2))).pt).imq fun σ H Q q => rd_orT q
  | .bnot a, X, sc, l, x, F => by
    have A := snd a (x := x) F
    have base : Snd X l x { ev fe x (.bnot a) with t := fun ρ k => (ev fe x (.bnot a)).v ρ fun p => truthW p k } (Ck.ofV fun sc e => match asUn e with
      | some (op, b) => decide (op = .Not) && (chk nc a).v sc b
      | none => false) sc := Snd.ofV rfl F.K ⟨rfl, rfl, rfl⟩ fun e he => by
      split at he
      · rename_i op b hx
        obtain ⟨p, rfl⟩ := asUn_eq hx
        simp only [Bool.and_eq_true, decide_eq_true_eq] at he
        obtain ⟨rfl, hv⟩ := he
        exact (pe_not (A.v b hv)).imq fun σ H Q q => rd_not q
      · cases he
    refine ⟨base.v, fun e he => ?_, base.a, base.k, base.i, base.o⟩
    replace he : (match asUn e with
      | some (op, b) => decide (op = .Not) && (chk nc a).t sc b
      | none => false) = true := he
    split at he
    · rename_i op b hx
      obtain ⟨p, rfl⟩ := asUn_eq hx
      simp only [Bool.and_eq_true, decide_eq_true_eq] at he
      obtain ⟨rfl, hv⟩ := he
      exact (pt_not (A.t b hv)).imq fun σ H Q q => rd_notT q
    · cases he
  | .ife c a b, X, sc, l, x, F => Snd.ofV rfl F.K ⟨rfl, rfl, rfl⟩ fun e he => by
    split at he
    · rename_i ec ea eb hx
      obtain ⟨p, rfl⟩ := asIf_eq hx
      simp only [Bool.and_eq_true] at he
      obtain ⟨⟨h1, h2⟩, h3⟩ := he
      exact (pe_ifExp ((snd c (x := x) F).t _ h1) ((snd a (x := x) F).v _ h2) ((snd b (x := x) F).v _ h3)).imq fun σ H Q q => rd_if q
    · cases he
  | .tup es, X, sc, l, x, F => Snd.ofV rfl F.K ⟨rfl, rfl, rfl⟩ fun e he => by
    split at he
    · rename_i xs hx
      obtain ⟨k, p, rfl⟩ := asTup_eq hx
      exact (pe_tup ((snd es (x := x) F).a _ he)).imq fun σ H Q q => rd_tup q
    · cases he
  | .lst es, X, sc, l, x, F => Snd.ofV rfl F.K ⟨rfl, rfl, rfl⟩ fun e he => by
    split at he
    · rename_i xs hx
      obtain ⟨p, rfl⟩ := asLst_eq hx
      exact (pe_lst ((snd es (x := x) F).a _ he)).imq fun σ H Q q => rd_lst q
    · cases he
  | .slc a lo hi, X, sc, l, x, F => Snd.ofV rfl F.K ⟨rfl, rfl, rfl⟩ fun e he => by
    split at he
    · rename_i y s hx
      obtain ⟨p, rfl⟩ := asSub_eq hx
      split at he
      · rename_i lo' hi' hs
        obtain ⟨p2, rfl⟩ := asSlc_eq hs
        simp only [Bool.and_eq_true] at he
        obtain ⟨⟨h1, h2⟩, h3⟩ := he
        refine (pe_slice sl_ok ((snd a (x := x) F).v _ h1) ((snd lo (x := x) F).o _ h2) ((snd hi (x := x) F).o _ h3)).imq fun σ H Q q => ?_
        rw [F.K]
        exact rd_slc q
      · cases he
    · cases he
  | .rev a, X, sc, l, x, F => Snd.ofV rfl F.K ⟨rfl, rfl, rfl⟩ fun e he => by
    split at he
    · rename_i y s hx
      obtain ⟨p, rfl⟩ := asSub_eq hx
      simp only [Bool.and_eq_true] at he
      obtain ⟨k, p1, p2, p3, rfl⟩ := isRevS_eq he.1
      refine (pe_revA ((snd a (x := x) F).v _ he.2)).imq fun σ H Q q => ?_
      rw [F.K]
      exact rd_rev q
    · cases he
  | .zl es, X, sc, l, x, F => Snd.ofV rfl F.K ⟨rfl, rfl, rfl⟩ fun e he => by
    replace he : zlB sc (eLen es) ((chk nc es).a sc) e = true := he
    unfold zlB at he
    split at he
    · rename_i y q hx
      obtain ⟨p, p', rfl⟩ := asCall_eq hx
      simp only [Bool.and_eq_true, decide_eq_true_eq] at he
      obtain ⟨⟨⟨rfl, hg⟩, hs⟩, he⟩ := he
      split at he
      · rename_i z e0 er hy
        obtain ⟨p2, p3, rfl⟩ := asCall_eq hy
        simp only [Bool.and_eq_true, decide_eq_true_eq] at he
        obtain ⟨⟨⟨⟨⟨rfl, hg2⟩, h0⟩, h1⟩, h2, h3⟩, hv⟩ := he
        have hk : ZipK (eLen es) := by
          have h4 : eLen es = 2 ∨ eLen es = 3 ∨ eLen es = 4 := by omega
          rcases h4 with h | h | h <;> rw [h]
          · exact zipK2
          · exact zipK3
          · exact zipK4
        refine (pe_lz (es := []) F.calm hk (by omega) (by omega) (F.gl hg) (blt_in F (by decide +kernel)) (F.gl hg2) (blt_in F (by decide +kernel)) ((snd es (x := x) F).a _ hv) (star_cons hs [] X.env) (star_cons h0 _ X.env) (star_plain h1)).imq fun σ H Q q => ?_
        rw [F.K]
        exact rd_zl q
      · cases he
    · cases he
  | .call f pm es ks, X, sc, l, x, F => Snd.ofV rfl F.K ⟨rfl, rfl, rfl⟩ fun e he => snd_call F f pm (snd es (x := x) F).a (snd ks (x := x) F).k e he fun h0 => ev_len0 h0
  | .cmp own elt tg it c, X, sc, l, x, F => Snd.ofV rfl F.K ⟨rfl, rfl, rfl⟩ fun e he => by
    replace he : lcB nc own tg (isNo c) (chk nc elt).v (chk nc it).i (chk nc c).t sc e = true := he
    unfold lcB at he
    split at he
    · rename_i el tge iter ifs scope pos hx
      have hx := asLc_eq hx
      subst hx
      simp only [Bool.and_eq_true] at he
      obtain ⟨⟨⟨⟨⟨⟨h1, h2⟩, h3⟩, h4⟩, h5⟩, h6⟩, h7⟩ := he
      have hown : tgIn tg own := by
        cases tg with
        | nm i =>
          show i ∈ own
          simpa using h3
        | tp is =>
          have h3 : is.all own.contains = true := h3
          intro i hi
          have := List.all_eq_true.mp h3 i hi
          simpa using this
      have key := pe_lc (X := X) (elt := el) (tg := tge) (iter := iter) (ifs := ifs) (scope := scope) (pos := pos) (own := ownOf nc.N own) (wi := tI l x (ev fe x it).i) (g := gTg l.K tg)
        (tt := tTs l (if isNo c = true then none else some (ev fe noX c).t)) (te := tV l.mute noX (ev fe noX elt).v) F.calm F.nd ((snd it (x := x) F).i tge iter h4).1
        (blkOk_by (by rw [F.N, F.sc]; exact h1))
        (fun s H C cl fp => tgB_ok (X := X.blk s H scope (compEnvC scope cl C X.env) fp) (nc := nc) (l := l) (sc := scope) F.N F.nd F.K F.calm (fun y hy => F.blkOwn s H scope cl C fp hy) h2)
        (fun s H C cl fp => by
          cases ifs with
          | nil =>
            replace h7 : isNo c = true := h7
            rw [if_pos h7]
            exact pts_nil
          | cons e0 r =>
            cases r with
            | nil =>
              replace h7 : (!isNo c && (chk nc c).t (relS scope sc) e0) = true := h7
              rw [Bool.and_eq_true, Bool.not_eq_true'] at h7
              rw [if_neg (by rw [h7.1]; decide)]
              exact pts_one ((snd c (x := noX) (F.blk s H scope cl C fp)).t e0 h7.2)
            | cons _ _ => cases h7)
        (fun s H C cl fp => (snd elt (x := noX) (F.blk s H scope cl C fp)).v el h6)
        (notSet_eq h5 X.env)
      rw [ownOf_map] at key
      exact key.imq fun σ H Q q => rd_lc hown q
    · cases he
  | .rng1 a, X, sc, l, x, F => Snd.ofI rfl fun tg e he => by
    replace he : rngB1 sc ((chk nc a).v sc) e = true := he
    unfold rngB1 at he
    split at he
    · rename_i y ea hx
      obtain ⟨p, q, rfl⟩ := asCall_eq hx
      simp only [Bool.and_eq_true, decide_eq_true_eq] at he
      obtain ⟨⟨⟨rfl, hg⟩, hs⟩, hv⟩ := he
      exact (pi_range1 (F.gl hg) (rng_ok F) (ca1 ((snd a (x := x) F).v _ hv) hs) (star_cons hs [] X.env)).imq fun σ H Q q => rd_rng1 q
    · cases he
  | .rng2 a b, X, sc, l, x, F => Snd.ofI rfl fun tg e he => by
    replace he : rngB2 sc ((chk nc a).v sc) ((chk nc b).v sc) e = true := he
    unfold rngB2 at he
    split at he
    · rename_i y ea eb hx
      obtain ⟨p, q, rfl⟩ := asCall_eq hx
      simp only [Bool.and_eq_true, decide_eq_true_eq] at he
      obtain ⟨⟨⟨⟨⟨rfl, hg⟩, hs⟩, hs2⟩, hv⟩, hv2⟩ := he
      exact (pi_range2 (F.gl hg) (rng_ok F) (pa_cons ((snd a (x := x) F).v _ hv) (ca1 ((snd b (x := x) F).v _ hv2) hs2) (star_cons hs _ X.env)) (by rw [star_cons hs, star_cons hs2] <;> rfl) (star_cons hs2 [] X.env)).imq fun σ H Q q => rd_rng2 q
    · cases he
  | .rng3 a b c, X, sc, l, x, F => Snd.ofI rfl fun tg e he => by
    replace he : rngB3 sc ((chk nc a).v sc) ((chk nc b).v sc) ((chk nc c).v sc) e = true := he
    unfold rngB3 at he
    split at he
    · rename_i y ea eb ec hx
      obtain ⟨p, q, rfl⟩ := asCall_eq hx
      simp only [Bool.and_eq_true, decide_eq_true_eq] at he
      obtain ⟨⟨⟨⟨⟨⟨⟨rfl, hg⟩, hs⟩, hs2⟩, hs3⟩, hv⟩, hv2⟩, hv3⟩ := he
      exact (pi_range3 (F.gl hg) (rng_ok F) (pa_cons ((snd a (x := x) F).v _ hv) (pa_cons ((snd b (x := x) F).v _ hv2) (ca1 ((snd c (x := x) F).v _ hv3) hs3) (star_cons hs2 _ X.env)) (star_cons hs _ X.env)) (star_cons hs _ X.env) (star_plain (by simp [hs2, hs3]))).imq fun σ H Q q => rd_rng3 q
    · cases he
  | .enu a, X, sc, l, x, F => Snd.ofI rfl fun tg e he => by
    rw [Bool.and_eq_true] at he
    obtain ⟨ht, he⟩ := he
    have ht : (asTup tg).isSome = true := ht
    obtain ⟨es, hes⟩ := Option.isSome_iff_exists.mp ht
    obtain ⟨kk, tp, rfl⟩ := asTup_eq hes
    obtain ⟨b, p, q, rfl, hg, hs, hv⟩ := callB1_ok he
    refine (pi_enumA (F.gl hg) (blt_in F (by decide +kernel)) ((snd a (x := x) F).v _ hv) (star_cons hs [] X.env)).imq fun σ H Q q => ?_
    rw [F.K]
    exact rd_enu q
  | .zip2 a b, X, sc, l, x, F => Snd.ofI rfl fun tg e he => by
    rw [Bool.and_eq_true] at he
    obtain ⟨ht, he⟩ := he
    have ht : (asTup tg).isSome = true := ht
    obtain ⟨es, hes⟩ := Option.isSome_iff_exists.mp ht
    obtain ⟨kk, tp, rfl⟩ := asTup_eq hes
    split at he
    · rename_i y ea eb hx
      obtain ⟨p, q, rfl⟩ := asCall_eq hx
      simp only [Bool.and_eq_true, decide_eq_true_eq] at he
      obtain ⟨⟨⟨⟨⟨rfl, hg⟩, hs⟩, hs2⟩, hv⟩, hv2⟩ := he
      refine (RZ.pi_zipA (F.gl hg) (blt_in F (by decide +kernel)) (pa_cons ((snd a (x := x) F).v _ hv) (ca1 ((snd b (x := x) F).v _ hv2) hs2) (star_cons hs _ X.env)) (star_cons hs _ X.env) (star_plain (by simp [hs2]))).imq fun σ H Q q => ?_
      rw [F.K]
      exact rd_zip q
    · cases he
  | .rvd a, X, sc, l, x, F => Snd.ofI rfl fun tg e he => by
    obtain ⟨b, p, q, rfl, hg, hs, hv⟩ := callB1_ok he
    refine (RT.pi_revA (F.gl hg) (blt_in F (by decide +kernel)) ((snd a (x := x) F).v _ hv) (star_cons hs [] X.env)).imq fun σ H Q q => ?_
    rw [F.K]
    exact rd_rvd q
  | .no, X, sc, l, x, F => Snd.none' (fun _ => rfl) (fun _ => rfl) (fun tg e => Bool.and_false _) (fun _ he => nomatch he) (fun _ he => nomatch he) fun e he => by
    cases e with
    | none => exact po_none.imq fun σ H Q q => rd_none q
    | some _ => cases he
  | .nil, X, sc, l, x, F => Snd.none' (fun _ => rfl) (fun _ => rfl) (fun tg e => Bool.and_false _) (fun es he => by
    cases es with
    | nil => exact pa_nil.imq fun σ H Q q => rd_nil q
    | cons _ _ => cases he) (fun ks he => by
    cases ks with
    | nil => exact pk_nil.imq fun σ H Q q => rd_nil q
    | cons _ _ => cases he) (fun _ he => nomatch he)
  | .cons a r, X, sc, l, x, F => Snd.none' (fun _ => rfl) (fun _ => rfl) (fun tg e => Bool.and_false _) (fun es he => by
    cases es with
    | nil => cases he
    | cons e es =>
      replace he : (notStar e && (chk nc a).v sc e && (chk nc r).a sc es) = true := he
      simp only [Bool.and_eq_true] at he
      exact (pa_cons ((snd a (x := x) F).v _ he.1.2) ((snd r (x := x) F).a _ he.2) (star_cons he.1.1 _ X.env)).imq fun σ H Q q => rd_cons q) (fun ks he => by
    cases ks with
    | nil => cases he
    | cons q ks =>
      replace he : ((chk nc a).v sc q.value && (chk nc r).k sc ks) = true := he
      simp only [Bool.and_eq_true] at he
      obtain ⟨nm, vl, kp⟩ := q
      exact (pk_cons ((snd a (x := x) F).v _ he.1) ((snd r (x := x) F).k _ he.2)).imq fun σ H Q q => rd_cons q) (fun _ he => nomatch he)
end
end Un
end
section
/-! Un: when a statement is one of the pure language. -/
namespace Un
open PySem PySem.Spec L2

def asAsg : Stmt → Option (Expr × Expr × Pos)
  | .Assign [t] e p => some (t, e, p)
  | _ => none
theorem asAsg_eq {st : Stmt} {t e : Expr} {p : Pos} (h : asAsg st = some (t, e, p)) : st = .Assign [t] e p := by
  unfold asAsg at h
  split at h
  · cases h; rfl
  · cases h
def asRet : Stmt → Option (Option Expr)
  | .Return e _ => some e
  | _ => none
theorem asRet_eq {st : Stmt} {e : Option Expr} (h : asRet st = some e) : ∃ p, st = .Return e p := by
  unfold asRet at h
  split at h
  · cases h; exact ⟨_, rfl⟩
  · cases h
def asIfS : Stmt → Option (Expr × List Stmt × List Stmt)
  | .If c a b _ => some (c, a, b)
  | _ => none
theorem asIfS_eq {st : Stmt} {c : Expr} {a b : List Stmt} (h : asIfS st = some (c, a, b)) : ∃ p, st = .If c a b p := by
  unfold asIfS at h
  split at h
  · cases h; exact ⟨_, rfl⟩
  · cases h
def asFor : Stmt → Option (Expr × Expr × List Stmt)
  | .For t i b [] _ => some (t, i, b)
  | _ => none
theorem asFor_eq {st : Stmt} {t i : Expr} {b : List Stmt} (h : asFor st = some (t, i, b)) : ∃ p, st = .For t i b [] p := by
  unfold asFor at h
  split at h
  · cases h; exact ⟨_, rfl⟩
  · cases h
def asWhl : Stmt → Option (Expr × List Stmt)
  | .While c b [] _ => some (c, b)
  | _ => none
theorem asWhl_eq {st : Stmt} {c : Expr} {b : List Stmt} (h : asWhl st = some (c, b)) : ∃ p, st = .While c b [] p := by
  unfold asWhl at h
  split at h
  · cases h; exact ⟨_, rfl⟩
  · cases h
def asExp : Stmt → Option (Expr × Pos)
  | .Expr e p => some (e, p)
  | _ => none
theorem asExp_eq {st : Stmt} {e : Expr} {p : Pos} (h : asExp st = some (e, p)) : st = .Expr e p := by
  unfold asExp at h
  split at h
  · cases h; rfl
  · cases h
/-- o.append(e) -/
def asApp : Expr → Option (Str × Expr × Pos × Pos)
  | .Call (.Attribute (.Name x _) m ap) [e] [] cp => if m = "append" then some (x, e, ap, cp) else none
  | _ => none
theorem asApp_eq {e v : Expr} {x : Str} {ap cp : Pos} (h : asApp e = some (x, v, ap, cp)) : ∃ p, e = .Call (.Attribute (.Name x p) "append" ap) [v] [] cp := by
  unfold asApp at h
  split at h
  · split at h
    · rename_i hm
      cases h
      subst hm
      exact ⟨_, rfl⟩
    · cases h
  · cases h
def isCompr : Expr → Bool
  | .ListComp .. => true
  | .SetComp .. => true
  | .DictComp .. => true
  | _ => false
theorem swaps_no {e : Expr} (h : isCompr e = false) (t : Option Expr) (n : Nat) (env : Env) : swapsWith e t n env = pure false := by
  cases e <;> first | rfl | (simp [isCompr] at h; done)
/-- name = [..] whose own variables are swapped in -/
def swB (sc : Scope) (y : Str) (yl el : Nat) (scope : Scope) : Bool := decide (sc.kind = .function) && decide (sc.names.lookup y = some .local) && (yl == el) && !(scope.names.any fun (n, k) => n == y && (k == .local || k == .cell))
/-- .. and whose are not -/
def swN (sc : Scope) (y : Str) (yl el : Nat) (scope : Scope) : Bool := !((if sc.kind.isAnnotationScope then .function else sc.kind) == ScopeKind.function && sc.names.lookup y == some .local && yl == el && !(scope.names.any fun (n, k) => n == y && (k == .local || k == .cell)))
theorem sw_no {elt : Expr} {gs : List Comprehension} {scope : Scope} {pos py : Pos} {y : Str} {n : Nat} {env : Env} (h : swN env.scope y py.line pos.line scope = true) : swapsWith (.ListComp elt gs scope pos) (some (.Name y py)) n env = pure false := by
  unfold swN at h
  rw [Bool.not_eq_true'] at h
  unfold swapsWith
  show (pure _ : Sem Bool) = pure false
  congr 1
def setB (nc : Nc) (sc : Scope) (i : Nat) (y : Str) (py : Pos) (ve : Expr → Bool) (e : Expr) : Bool := ownB nc sc i y && ve e && (match asLc e with
  | some (_, _, _, _, scope, pos) => swN sc y py.line pos.line scope
  | none => !isCompr e)
/-- the same by the comprehension's parts -/
def setLcB (nc : Nc) (sc : Scope) (i : Nat) (y : Str) (py : Pos) (lb : Expr → Bool) (e : Expr) : Bool := decide (nc.N[i]? = some y) && lb e && (match asLc e with
  | some (_, _, _, _, scope, pos) => swB sc y py.line pos.line scope
  | none => false)
/-- what a, b = x, y asks: 1 stored from the right, 0 unpacked -/
def parNames (sc : Scope) (ts : List Expr) : List Str := ts.filterMap fun
  | .Name id pos => if sc.names.lookup id == some .local && pos.line == ((ts.head?.map (·.pos.line)).getD 0) then some id else none
  | _ => none
def parTup (sc : Scope) (ts vs : List Expr) : Bool := !(ts.length == 2 || ts.length == 3) || (vs.length != ts.length) || ((if sc.kind.isAnnotationScope then .function else sc.kind) != .function) || (!(vs.any fun | .Starred .. => true | _ => false) &&
  ((parNames sc ts).length != ts.length || (parNames sc ts).eraseDups.length != (parNames sc ts).length || vs.all (foldedForSure 8)))
def parSwap (sc : Scope) (ts vs : List Expr) : Bool := (ts.length == 2 || ts.length == 3) && (vs.length == ts.length) && ((if sc.kind.isAnnotationScope then .function else sc.kind) == .function) && !(vs.any fun | .Starred .. => true | _ => false) &&
  (parNames sc ts).length == ts.length && (parNames sc ts).eraseDups.length == (parNames sc ts).length && !(vs.all (foldedForSure 8)) && !(vs.all (constantsAlone 8))
theorem parTup_eq {env : Env} {ts vs : List Expr} {k k2 : Nat} {p p2 : Pos} (h : parTup env.scope ts vs = true) : swappedStores [.Tuple ts k p] (.Tuple vs k2 p2) env = pure none := by
  unfold parTup at h
  unfold swappedStores
  simp only [pure_bind]
  simp only [Bool.or_eq_true, Bool.and_eq_true] at h
  by_cases h1 : (!(ts.length == 2 || ts.length == 3) || vs.length != ts.length || env.blockKind != .function) = true
  · rw [if_pos h1]
  · rw [if_neg h1]
    split
    · rfl
    · split
      · rfl
      · rename_i h2 h3
        split
        · rfl
        · rename_i h4
          exfalso
          rcases h with ((h | h) | h) | ⟨_, (h | h) | h⟩
          · exact h1 (by rw [h] <;> rfl)
          · exact h1 (by rw [h, Bool.or_true] <;> rfl)
          · refine h1 ?_
            show (!(ts.length == 2 || ts.length == 3) || vs.length != ts.length || ((if env.scope.kind.isAnnotationScope = true then ScopeKind.function else env.scope.kind) != ScopeKind.function)) = true
            rw [h, Bool.or_true]
          · refine h3 ?_
            show ((parNames env.scope ts).length != ts.length || (parNames env.scope ts).eraseDups.length != (parNames env.scope ts).length) = true
            rw [h] <;> rfl
          · refine h3 ?_
            show ((parNames env.scope ts).length != ts.length || (parNames env.scope ts).eraseDups.length != (parNames env.scope ts).length) = true
            rw [h, Bool.or_true]
          · exact h4 h
theorem parSwap_eq {env : Env} {ts vs : List Expr} {k k2 : Nat} {p p2 : Pos} (h : parSwap env.scope ts vs = true) : swappedStores [.Tuple ts k p] (.Tuple vs k2 p2) env = pure (some (parNames env.scope ts)) := by
  unfold parSwap at h
  simp only [Bool.and_eq_true, Bool.not_eq_true'] at h
  obtain ⟨⟨⟨⟨⟨⟨⟨q1, q2⟩, q3⟩, q4⟩, q5⟩, q6⟩, q7⟩, q8⟩ := h
  unfold swappedStores
  simp only [pure_bind]
  have h1 : ¬ (!(ts.length == 2 || ts.length == 3) || vs.length != ts.length || env.blockKind != ScopeKind.function) = true := by
    show ¬ (!(ts.length == 2 || ts.length == 3) || !(vs.length == ts.length) || !((if env.scope.kind.isAnnotationScope = true then ScopeKind.function else env.scope.kind) == ScopeKind.function)) = true
    rw [q1, q2, q3]
    decide
  rw [if_neg h1]
  split
  · rename_i h2
    exact absurd (h2.symm.trans q4) (by decide)
  · split
    · rename_i h3
      have h3 : (!((parNames env.scope ts).length == ts.length) || !((parNames env.scope ts).eraseDups.length == (parNames env.scope ts).length)) = true := h3
      rw [q5, q6] at h3
      cases h3
    · rw [if_neg (by rw [q7]; decide), if_neg (by rw [q8]; decide)]
      rfl
end Un
end
section
/-! Un: the statements' readings. -/
namespace Un
open PySem PySem.Spec L2

structure Sts (l : Lay) (x : KX) (L : Loc) (Hi0 B Hi : Hp) (σ : L2.St) (H : Hp) (ρ : List SV) : Prop where
  k : l.κ L
  r : Rel l.K L Hi0 B Hi σ H ρ
  e : ∀ ρ' σ' Hi H, Rel l.K L Hi0 B Hi σ' H ρ' → ∀ c fs cls d Hi' H', x c fs → Grow L Hi H Hi' H' → L.ok H' → l.XR c fs cls d Hi' H' → l.W cls d σ' H'
/-- what is fixed stays fixed, what stands stands -/
structure Adv (Hi H Hi' H' : Hp) : Prop where
  mono : Same Hi Hi'
  dom : ∀ a, H' a = none → H a = none
def AfterF (K : PySem.W.Frag) (L : Loc) (Hi0 B Hi H : Hp) (k : KF) (D : Ends) : Prop := ∀ fl, k fl → match fl with
  | .nx ρ' => ∀ σ' Hi' H', Rel K L Hi0 B Hi' σ' H' ρ' → Adv Hi H Hi' H' → D.nx σ' H'
  | .bk ρ' => ∀ σ' Hi' H', Rel K L Hi0 B Hi' σ' H' ρ' → Adv Hi H Hi' H' → D.bk σ' H'
  | .ct ρ' => ∀ σ' Hi' H', Rel K L Hi0 B Hi' σ' H' ρ' → Adv Hi H Hi' H' → D.ct σ' H'
  | .rt a => ∀ v Hi' H', Grow L Hi0 B Hi' H' → L.ok H' → AvOk K L B B Hi' H' v a → D.rt v H'
def tS (l : Lay) (x : KX) (f : List SV → KF → Prop) : TS := fun D σ H => ∃ L Hi0 B Hi ρ k, Sts l x L Hi0 B Hi σ H ρ ∧ f ρ k ∧ AfterF l.K L Hi0 B Hi H k D
section
variable {l : Lay} {x : KX} {K : PySem.W.Frag} {L : Loc} {Hi0 B Hs Hi H Hi' H' Hi1 H1 : Hp} {σ : L2.St} {ρ : List SV} {D : Ends} {k : KF}
theorem Adv.refl : Adv Hi H Hi H := ⟨Same.refl _, fun _ h => h⟩
theorem Adv.trans (a : Adv Hi H Hi1 H1) (b : Adv Hi1 H1 Hi' H') : Adv Hi H Hi' H' := ⟨a.mono.trans b.mono, fun p h => a.dom p (b.dom p h)⟩
theorem Grow.adv (g : Grow L Hi H Hi' H') : Adv Hi H Hi' H' := ⟨g.mono, g.dom⟩
theorem Sts.stt (s : Sts l x L Hi0 B Hi σ H ρ) : Stt l x L Hi0 B Hi σ H ρ := ⟨s.k, s.r, s.e ρ σ Hi H s.r⟩
theorem Sts.to (s : Sts l x L Hi0 B Hi σ H ρ) {σ' : L2.St} {ρ' : List SV} (r : Rel l.K L Hi0 B Hi' σ' H' ρ') : Sts l x L Hi0 B Hi' σ' H' ρ' := ⟨s.k, r, s.e⟩
theorem AfterF.later (h : AfterF K L Hi0 B Hi H k D) (g : Adv Hi H Hi' H') : AfterF K L Hi0 B Hi' H' k D := fun fl hk => by
  have q := h fl hk
  cases fl with
  | nx ρ' => exact fun σ' Hi2 H2 r a => q σ' Hi2 H2 r (g.trans a)
  | bk ρ' => exact fun σ' Hi2 H2 r a => q σ' Hi2 H2 r (g.trans a)
  | ct ρ' => exact fun σ' Hi2 H2 r a => q σ' Hi2 H2 r (g.trans a)
  | rt a => exact q
/-- slots set from the left -/
def setVs : List Nat → List V → L2.St → L2.St
  | i :: is, v :: vs, σ => setVs is vs (σ.set i (some v))
  | _, _, σ => σ
theorem gNames_set : ∀ {is : List Nat} {vs : List V} {σ : L2.St} {Q : L2.St → Hp → Prop}, vs.length = is.length → Q (setVs is vs σ) H → gNames is vs σ H Q
  | [], [], _, _, _, q => ⟨rfl, q⟩
  | [], _ :: _, _, _, h, _ => nomatch h
  | _ :: _, [], _, _, h, _ => nomatch h
  | i :: is, v :: vs, _, _, h, q => ⟨v, vs, rfl, gNames_set (is := is) (by simpa using h) q⟩
theorem setA_ok (hB : ∀ p, Hs p = none → B p = none) : ∀ {is : List Nat} {vs : List V} {as : List AV} {σ : L2.St} {ρ : List SV} {k : List SV → Prop}, Rel K L Hi0 B Hi σ H ρ → LsOk K L B Hs Hi H vs as →
    (∀ (j : Nat) r a, ρ[j]? = some r → isOwn r = true → σ[j]? = some (some (V.ref a)) → ∀ (i : Nat) b, as[i]? = some b → isNew b = true → vs[i]? ≠ some (V.ref a)) → setA is as ρ k →
    vs.length = is.length ∧ ∃ ρ', k ρ' ∧ Rel K L Hi0 B Hi (setVs is vs σ) H ρ'
  | [], _, [], σ, ρ, k, r, ls, _, h => by
    cases ls
    exact ⟨rfl, ρ, h, r⟩
  | [], _, _ :: _, _, _, _, _, _, _, h => h.elim
  | _ :: _, _, [], _, _, _, _, _, _, h => h.elim
  | i :: is, _, a :: as, σ, ρ, k, r, .cons (v := v) (vs := vs) ha hn t, fr, h => by
    have h : setW ρ i a fun ρ' => setA is as ρ' k := h
    -- one slot is set; the rest as before
    have next : ∀ q : SV, SvOk K L B Hi H (some v) q → (isOwn q = true → isNew a = true) → setA is as (ρ.set i q) k → (v :: vs).length = (i :: is).length ∧ ∃ ρ', k ρ' ∧ Rel K L Hi0 B Hi (setVs (i :: is) (v :: vs) σ) H ρ' := fun q hq ho hr => by
      have r2 : Rel K L Hi0 B Hi (σ.set i (some v)) H (ρ.set i q) := r.put hq fun z j p b hj e1 e2 e3 e4 => fr j p b e1 e2 e3 0 a (by simp) (ho z) (by simpa using e4)
      have fr2 : ∀ (j : Nat) r' b, (ρ.set i q)[j]? = some r' → isOwn r' = true → (σ.set i (some v))[j]? = some (some (V.ref b)) → ∀ (m : Nat) c, as[m]? = some c → isNew c = true → vs[m]? ≠ some (V.ref b) := fun j r' b e1 e2 e3 m c e4 e5 => by
        by_cases hj : i = j
        · subst hj
          by_cases hl : i < ρ.length
          · rw [List.getElem?_set_self hl] at e1
            cases e1
            rw [List.getElem?_set_self (by rw [← r.len]; exact hl)] at e3
            have ev : v = .ref b := Option.some.inj (Option.some.inj e3)
            subst ev
            exact hn (ho e2) m c e4 e5
          · rw [List.getElem?_eq_none (by simpa using hl)] at e1
            cases e1
        · rw [List.getElem?_set_ne hj] at e1 e3
          have := fr j r' b e1 e2 e3 (m + 1) c (by simpa using e4) e5
          simpa using this
      obtain ⟨l1, ρ', h1, h2⟩ := setA_ok hB r2 t fr2 hr
      exact ⟨by rw [List.length_cons, List.length_cons, l1], ρ', h1, h2⟩
    cases a with
    | d y => exact next (.d y) ⟨v, rfl, ha⟩ (fun z => nomatch z) h
    | src => exact next .src (congrArg some ha) (fun z => nomatch z) h
    | new xs =>
      obtain ⟨p, ws, rfl, h1, h2, h3, h4⟩ := ha
      exact next (.own xs) ⟨p, ws, rfl, hB p h1, h2, h3, h4⟩ (fun _ => rfl) h
    | bor xs => exact h.elim
/-- what a slot holds was there at the start -/
theorem Rel.old (r : Rel K L Hi0 B Hi σ H ρ) {vs : List V} {as : List AV} (ls : LsOk K L B H Hi' H' vs as) : ∀ (j : Nat) q a, ρ[j]? = some q → isOwn q = true → σ[j]? = some (some (V.ref a)) → ∀ (i : Nat) b, as[i]? = some b → isNew b = true → vs[i]? ≠ some (V.ref a) := fun j q a e1 e2 e3 i b e4 e5 e6 => by
  obtain ⟨v, h1, h2⟩ := r.slot j q e1
  rw [e3] at h1
  cases h1
  cases q with
  | own xs =>
    obtain ⟨p, ws, e, g1, g2, g3, g4⟩ := h2
    cases e
    have h := ls.get e6 e4
    cases b with
    | new ys =>
      obtain ⟨p', ws', e', f1, _⟩ := h
      cases e'
      rw [f1] at g3
      cases g3
    | _ => cases e5
  | _ => cases e2
theorem rs_par {fs : List SV → (List AV → Prop) → Prop} {is : List Nat} (h : tS l x (fun ρ k => fs ρ fun as => setA is as ρ fun ρ' => k (.nx ρ')) D σ H) :
    tL l x fs σ H fun vs H1 => vs.length = is.length ∧ D.nx (setVs is vs σ) H1 := by
  obtain ⟨L, Hi0, B, Hi, ρ, k, s, hf, ha⟩ := h
  refine ⟨L, Hi0, B, Hi, ρ, _, s.stt, hf, fun as has vs Hi1 H1 g1 ok1 hvs => ?_⟩
  obtain ⟨l1, ρ', h1, h2⟩ := setA_ok (Hs := H) s.r.g.dom (s.r.step g1 ok1) hvs (s.r.old hvs) has
  exact ⟨l1, ha _ h1 _ _ _ h2 g1.adv⟩
theorem rs_set {f : List SV → KA → Prop} {i : Nat} (h : tS l x (fun ρ k => f ρ fun a => setW ρ i a fun ρ' => k (.nx ρ')) D σ H) : tAsg (tV l x f) (gName i) D σ H := by
  obtain ⟨L, Hi0, B, Hi, ρ, k, s, hf, ha⟩ := h
  refine ⟨L, Hi0, B, Hi, ρ, _, s.stt, hf, fun a hset v Hi1 H1 g1 ok1 hv => ?_⟩
  have ls : LsOk l.K L B H Hi1 H1 [v] [a] := .cons hv (fun _ i b e => by simp at e) .nil
  obtain ⟨l1, ρ', h1, h2⟩ := setA_ok (is := [i]) (k := fun ρ' => k (.nx ρ')) (Hs := H) s.r.g.dom (s.r.step g1 ok1) ls (s.r.old ls) hset
  exact ha _ h1 _ _ _ h2 g1.adv
theorem rs_parT {fs : List SV → (List AV → Prop) → Prop} {is : List Nat} (hz : is.length ≤ sizeLine) (h : tS l x (fun ρ k => fs ρ fun as => setA is as ρ fun ρ' => k (.nx ρ')) D σ H) : tAsg (tTup (tL l x fs)) (gSq l.K is.length (gNames is)) D σ H := by
  obtain ⟨L, Hi0, B, Hi, ρ, k, s, hf, ha⟩ := h
  refine ⟨L, Hi0, B, Hi, ρ, _, s.stt, hf, fun as has vs Hi1 H1 g1 ok1 hvs => ?_⟩
  obtain ⟨l1, ρ', h1, h2⟩ := setA_ok (Hs := H) s.r.g.dom (s.r.step g1 ok1) hvs (s.r.old hvs) has
  refine ⟨by rw [l1]; exact hz, fun p hp => ⟨p, vs, rfl, .inl (SqT.of upd_same), l1, gNames_set l1 ?_⟩⟩
  have gl := Grow.laid' (L := L) (o := .tup vs) g1.sub hp
  exact ha _ h1 _ _ _ (h2.step gl (L.okNew ok1 hp)) (g1.adv.trans gl.adv)
theorem rs_unp {f : List SV → KA → Prop} {is : List Nat} (h : tS l x (fun ρ k => f ρ fun a => ∃ xs, a.items? = some xs ∧ ∃ ρ', setD is xs ρ = some ρ' ∧ k (.nx ρ')) D σ H) : tAsg (tV l x f) (gSq l.K is.length (gNames is)) D σ H := by
  obtain ⟨L, Hi0, B, Hi, ρ, k, s, hf, ha⟩ := h
  refine ⟨L, Hi0, B, Hi, ρ, _, s.stt, hf, fun a hset v Hi1 H1 g1 ok1 hv => ?_⟩
  obtain ⟨xs, ei, ρ', e, hk⟩ := hset
  have main : ∀ {a : Addr} {vs : List V}, (SqT l.K H1 a vs ∨ SqL l.K H1 a vs) → DqAll l.K Hi1 vs xs → gSq l.K is.length (gNames is) (.ref a) σ H1 D.nx := fun {a vs} hq h2 => by
    obtain ⟨l1, q⟩ := names_ok (Qg := D.nx) (s.r.step g1 ok1) h2 e fun σ1 r1 _ => ha _ hk _ _ _ r1 g1.adv
    exact ⟨_, _, rfl, hq, l1, q⟩
  cases a with
  | d y =>
    cases y with
    | tuple ys =>
      cases ei
      have hv : Dq l.K Hi1 v (.tuple xs) := hv
      cases hv with
      | tup h1 h2 => exact main (.inl (sqT_mono g1.sub h1)) h2
    | list ys =>
      cases ei
      have hv : Dq l.K Hi1 v (.list xs) := hv
      cases hv with
      | lst h1 h2 => exact main (.inr (SqL.of (g1.sub _ _ h1))) h2
    | _ => cases ei
  | new ys =>
    cases ei
    obtain ⟨p, vs, rfl, h3, h4⟩ := hv.list g1.sub rfl
    exact main (.inr (SqL.of h3)) h4
  | bor ys =>
    cases ei
    obtain ⟨p, vs, rfl, h3, h4⟩ := hv.list g1.sub rfl
    exact main (.inr (SqL.of h3)) h4
  | src => cases ei
theorem rs_ret {f : List SV → KA → Prop} (h : tS l x (fun ρ k => f ρ fun a => k (.rt a)) D σ H) : tRet (tV l x f) D σ H := by
  obtain ⟨L, Hi0, B, Hi, ρ, k, s, hf, ha⟩ := h
  refine ⟨L, Hi0, B, Hi, ρ, _, s.stt, hf, fun a hk v Hi1 H1 g1 ok1 hv => ?_⟩
  exact ha _ hk v Hi1 H1 (s.r.g.trans g1) ok1 (hv.early s.r.g.dom)
theorem rs_retN (h : tS l x (fun _ k => k (.rt (.d .none))) D σ H) : tRetN D σ H := by
  obtain ⟨L, Hi0, B, Hi, ρ, k, s, hf, ha⟩ := h
  exact ha _ hf _ Hi H s.r.g s.r.src .non
theorem rs_drop {f : List SV → KA → Prop} (h : tS l x (fun ρ k => f ρ fun _ => k (.nx ρ)) D σ H) : tDrop (tV l x f) D σ H := by
  obtain ⟨L, Hi0, B, Hi, ρ, k, s, hf, ha⟩ := h
  exact ⟨L, Hi0, B, Hi, ρ, _, s.stt, hf, fun a hk v Hi1 H1 g1 ok1 hv => ha _ hk _ _ _ (s.r.step g1 ok1) g1.adv⟩
theorem rs_if {c : List SV → (Bool → Prop) → Prop} {f g : List SV → KF → Prop} (h : tS l x (fun ρ k => c ρ fun t => if t = true then f ρ k else g ρ k) D σ H) : tIfS (tT l x c) (tS l x f) (tS l x g) D σ H := by
  obtain ⟨L, Hi0, B, Hi, ρ, k, s, hf, ha⟩ := h
  refine ⟨L, Hi0, B, Hi, ρ, _, s.stt, hf, fun t ht Hi1 H1 g1 ok1 => ?_⟩
  cases t with
  | true => exact ⟨L, Hi0, B, Hi1, ρ, k, s.to (s.r.step g1 ok1), ht, ha.later g1.adv⟩
  | false => exact ⟨L, Hi0, B, Hi1, ρ, k, s.to (s.r.step g1 ok1), ht, ha.later g1.adv⟩
theorem rs_nx (h : tS l x (fun ρ k => k (.nx ρ)) D σ H) : tNext D σ H := by
  obtain ⟨L, Hi0, B, Hi, ρ, k, s, hf, ha⟩ := h
  exact ha _ hf _ _ _ s.r Adv.refl
theorem rs_bk (h : tS l x (fun ρ k => k (.bk ρ)) D σ H) : tBreak D σ H := by
  obtain ⟨L, Hi0, B, Hi, ρ, k, s, hf, ha⟩ := h
  exact ha _ hf _ _ _ s.r Adv.refl
theorem rs_ct (h : tS l x (fun ρ k => k (.ct ρ)) D σ H) : tCont D σ H := by
  obtain ⟨L, Hi0, B, Hi, ρ, k, s, hf, ha⟩ := h
  exact ha _ hf _ _ _ s.r Adv.refl
theorem rs_cons {f g : List SV → KF → Prop} (h : tS l x (fun ρ k => f ρ fun fl => match fl with
    | .nx ρ' => g ρ' k
    | o => k o) D σ H) : tSeq (tS l x f) (tS l x g) D σ H := by
  obtain ⟨L, Hi0, B, Hi, ρ, k, s, hf, ha⟩ := h
  refine ⟨L, Hi0, B, Hi, ρ, _, s, hf, fun fl hk => ?_⟩
  cases fl with
  | nx ρ' => exact fun σ' Hi' H' r a => ⟨L, Hi0, B, Hi', ρ', k, s.to r, hk, ha.later a⟩
  | bk ρ' => exact ha _ hk
  | ct ρ' => exact ha _ hk
  | rt a => exact ha _ hk
/-- a list of one's own is changed -/
theorem Rel.write (r : Rel K L Hi0 B Hi σ H ρ) {i : Nat} {p : Addr} {ws : List V} {xs ys : List PyData} (e : ρ[i]? = some (.own xs)) (ep : σ[i]? = some (some (V.ref p))) (hb : B p = none) (hn : Hi p = none) (d : DqAll K Hi ws ys) :
    Rel K L Hi0 B Hi σ (L2.upd H p (.lst ws)) (ρ.set i (.own ys)) where
  g := r.g.wrote hb hn
  src := L.okUpd r.src (Loc.nofoot r.srcB p hb)
  srcB := r.srcB
  av0 := r.av0
  len := by rw [List.length_set]; exact r.len
  slot := fun j q eq => by
    have hl : i < ρ.length := (List.getElem?_eq_some_iff.mp e).1
    by_cases hj : i = j
    · subst hj
      rw [List.getElem?_set_self hl] at eq
      cases eq
      exact ⟨_, ep, p, ws, rfl, hb, hn, upd_same, d⟩
    · rw [List.getElem?_set_ne hj] at eq
      obtain ⟨v, h1, h2⟩ := r.slot j q eq
      refine ⟨v, h1, ?_⟩
      cases q with
      | own zs =>
        obtain ⟨a, us, rfl, g1, g2, g3, g4⟩ := h2
        have hne : a ≠ p := fun z => by
          subst z
          exact r.apart i j _ _ a hj e eq rfl rfl ep h1
        exact ⟨a, us, rfl, g1, g2, by rw [upd_ne hne]; exact g3, g4⟩
      | _ => exact h2
  apart := fun j m q q' a hjm e1 e2 o1 o2 s1 s2 => by
    have own : ∀ (j : Nat) q, (ρ.set i (.own ys))[j]? = some q → isOwn q = true → ∃ q', ρ[j]? = some q' ∧ isOwn q' = true := fun j q e1 o1 => by
      by_cases hj : i = j
      · subst hj
        exact ⟨_, e, rfl⟩
      · rw [List.getElem?_set_ne hj] at e1
        exact ⟨q, e1, o1⟩
    obtain ⟨u, f1, f2⟩ := own j q e1 o1
    obtain ⟨u', f1', f2'⟩ := own m q' e2 o2
    exact r.apart j m u u' a hjm f1 f1' f2 f2' s1 s2
theorem Rel.ownAt (r : Rel K L Hi0 B Hi σ H ρ) {i : Nat} {xs : List PyData} (e : ρ[i]? = some (.own xs)) : ∃ p ws, σ[i]? = some (some (V.ref p)) ∧ B p = none ∧ Hi p = none ∧ H p = some (.lst ws) ∧ DqAll K Hi ws xs := by
  obtain ⟨v, h1, p, ws, rfl, h2⟩ := r.slot i _ e
  exact ⟨p, ws, h1, h2⟩
theorem rs_put {f g : List SV → KA → Prop} {i : Nat} (h : tS l x (fun ρ k => f ρ fun a => ∃ y, a.emb? = some y ∧ ∃ xs, ρ[i]? = some (.own xs) ∧ g ρ fun p => Un.intW p fun n => ∃ m, ixOf xs.length n = some m ∧ k (.nx (ρ.set i (.own (xs.set m y))))) D σ H) :
    tAsg (tV l x f) (gSub (tVar i) (tV l x g) rSetL) D σ H := by
  obtain ⟨L, Hi0, B, Hi, ρ, k, s, hf, ha⟩ := h
  refine ⟨L, Hi0, B, Hi, ρ, _, s.stt, hf, fun a hset v Hi1 H1 g1 ok1 hv => ?_⟩
  obtain ⟨y, ey, xs, ex, hset⟩ := hset
  obtain ⟨Hi2, g2, s2, d2, k2⟩ := hv.fix (His := Hi) g1 ey
  have r2 := s.r.step g2 ok1
  obtain ⟨p, ws, ep, b1, b2, b3, b4⟩ := r2.ownAt ex
  refine ⟨_, ep, L, Hi0, B, Hi2, ρ, _, (s.to r2).stt, hset, fun q hq u Hi3 H3 g3 ok3 hu => ?_⟩
  obtain ⟨n, rfl, m, hm, hk⟩ := hu.intW hq
  have r3 := r2.step g3 ok3
  obtain ⟨p', ws', ep', c1, c2, c3, c4⟩ := r3.ownAt ex
  rw [ep] at ep'
  cases ep'
  refine ⟨p, ws', n, m, rfl, rfl, c3, by rw [c4.len]; exact hm, ?_⟩
  have r4 := r3.write ex ep c1 c2 (DqAll.set (Dq.mono g3.mono _ _ d2) m c4)
  refine ha _ hk _ _ _ r4 ((g2.adv.trans g3.adv).trans ⟨Same.refl _, fun b e => ?_⟩)
  by_cases eb : b = p
  · rw [eb, upd_same] at e
    cases e
  · rw [upd_ne eb] at e
    exact e
theorem rs_app {f : List SV → KA → Prop} {i : Nat} (h : tS l x (fun ρ k => ∃ xs, ρ[i]? = some (.own xs) ∧ f ρ fun a => ∃ y, a.emb? = some y ∧ xs.length < sizeLine ∧ k (.nx (ρ.set i (.own (xs ++ [y]))))) D σ H) :
    tDrop (tBM l.K "list" rAppend (tVar i) (tCons (tV l x f) tNil)) D σ H := by
  obtain ⟨L, Hi0, B, Hi, ρ, k, s, ⟨xs, ex, hf⟩, ha⟩ := h
  obtain ⟨p, ws, ep, b1, b2, b3, b4⟩ := s.r.ownAt ex
  refine ⟨_, ep, ?_, L, Hi0, B, Hi, ρ, _, s.stt, hf, fun a hset v Hi1 H1 g1 ok1 hv => ?_⟩
  · exact .inl ⟨rfl, ws, SqL.of b3⟩
  obtain ⟨y, ey, hz, hk⟩ := hset
  obtain ⟨Hi2, g2, s2, d2, k2⟩ := hv.fix (His := Hi) g1 ey
  have r2 := s.r.step g2 ok1
  obtain ⟨p', ws', ep', c1, c2, c3, c4⟩ := r2.ownAt ex
  rw [ep] at ep'
  cases ep'
  refine ⟨p, ws', v, rfl, rfl, c3, by rw [c4.len]; exact hz, ?_⟩
  have r4 := r2.write ex ep c1 c2 (c4.snoc d2)
  refine ha _ hk _ _ _ r4 (g2.adv.trans ⟨Same.refl _, fun b e => ?_⟩)
  by_cases eb : b = p
  · rw [eb, upd_same] at e
    cases e
  · rw [upd_ne eb] at e
    exact e
/-- a list of one's own is fixed from now on (nothing runs) -/
theorem Rel.frz (r : Rel K L Hi0 B Hi σ H ρ) {i : Nat} {xs : List PyData} (e : ρ[i]? = some (.own xs)) : ∃ Hi', Rel K L Hi0 B Hi' σ H (ρ.set i (.d (.list xs))) ∧ Adv Hi H Hi' H := by
  obtain ⟨p, ws, ep, b1, b2, b3, b4⟩ := r.ownAt e
  have hl : i < ρ.length := (List.getElem?_eq_some_iff.mp e).1
  have up : Same Hi (L2.upd Hi p (.lst ws)) := fun b u z => by rw [upd_ne (ne_of_none z b2)]; exact z
  refine ⟨L2.upd Hi p (.lst ws), ⟨r.g.fixed b3 b1 b2, r.src, r.srcB, r.av0, by rw [List.length_set]; exact r.len, fun j q eq => ?_, fun j m q q' a hjm e1 e2 o1 o2 s1 s2 => ?_⟩, ⟨up, fun _ h => h⟩⟩
  · by_cases hj : i = j
    · subst hj
      rw [List.getElem?_set_self hl] at eq
      cases eq
      exact ⟨_, ep, _, rfl, .lst upd_same (DqAll.upd b2 b4)⟩
    · rw [List.getElem?_set_ne hj] at eq
      obtain ⟨v, h1, h2⟩ := r.slot j q eq
      refine ⟨v, h1, ?_⟩
      cases q with
      | own zs =>
        obtain ⟨a, us, rfl, g1, g2, g3, g4⟩ := h2
        have hne : a ≠ p := fun z => by
          subst z
          exact r.apart i j _ _ a hj e eq rfl rfl ep h1
        exact ⟨a, us, rfl, g1, by rw [upd_ne hne]; exact g2, g3, DqAll.mono up _ _ g4⟩
      | d z =>
        obtain ⟨u, e1, e2⟩ := h2
        exact ⟨u, e1, Dq.mono up _ _ e2⟩
      | un => exact h2
      | src => exact h2
      | scr =>
        obtain ⟨a, ns, e1, e2⟩ := h2
        exact ⟨a, ns, e1, sqL_mono up e2⟩
  · have own : ∀ (j : Nat) q, (ρ.set i (.d (.list xs)))[j]? = some q → isOwn q = true → ρ[j]? = some q := fun j q e1 o1 => by
      by_cases hj : i = j
      · subst hj
        rw [List.getElem?_set_self hl] at e1
        cases e1
        cases o1
      · rwa [List.getElem?_set_ne hj] at e1
    exact r.apart j m q q' a hjm (own j q e1 o1) (own m q' e2 o2) o1 o2 s1 s2
theorem rs_frz {g : List SV → KF → Prop} {i : Nat} (h : tS l x (fun ρ k => ∃ xs, ρ[i]? = some (.own xs) ∧ g (ρ.set i (.d (.list xs))) k) D σ H) : tS l x g D σ H := by
  obtain ⟨L, Hi0, B, Hi, ρ, k, s, ⟨xs, ex, hf⟩, ha⟩ := h
  obtain ⟨Hi', r2, a2⟩ := s.r.frz ex
  exact ⟨L, Hi0, B, Hi', _, k, s.to r2, hf, ha.later a2⟩
theorem rs_for {wi : List SV → (List PyData → Prop) → Prop} {tg : Tg} {f : List SV → KF → Prop} (h : tS l x (fun ρ k => wi ρ fun xs => loopW tg f xs ρ k) D σ H) : tFor (tI l x wi) (gTg l.K tg) (tS l x f) D σ H := by
  obtain ⟨L, Hi0, B, Hi, ρ, k, s, hf, ha⟩ := h
  refine ⟨L, Hi0, B, Hi, ρ, _, s.stt, hf, fun xs hxs J Hi1 H1 g1 ok1 it => ?_⟩
  refine ⟨fun i m σ' H' => m = xs.length - i ∧ i ≤ xs.length ∧ ∃ Hi' ρ', Rel l.K L Hi0 B Hi' σ' H' ρ' ∧ Adv Hi1 H1 Hi' H' ∧ loopW tg f (xs.drop i) ρ' k, ⟨_, rfl, Nat.zero_le _, Hi1, ρ, s.r.step g1 ok1, Adv.refl, hxs⟩, ?_⟩
  rintro i m σ' H' ⟨rfl, hi, Hi', ρ', r, a, hl⟩
  rcases Nat.lt_or_ge i xs.length with hlt | hge
  · refine .inr ⟨it.go i Hi' H' a.mono r.g.sub a.dom r.src hlt, fun σ2 H2 => ∃ Hi2 ρ2, Rel l.K L Hi0 B Hi2 σ2 H2 ρ2 ∧ Adv Hi1 H1 Hi2 H2 ∧ loopW tg f (xs.drop (i + 1)) ρ2 k, fun σ2 H2 h2 => ⟨xs.length - (i + 1), by omega, rfl, hlt, h2⟩, fun y H2 hy => ?_⟩
    have hget : xs[i]? = some xs[i] := List.getElem?_eq_getElem hlt
    obtain ⟨Hi2, g3, ok3, dy⟩ := it.yld i Hi' H' xs[i] y H2 a.mono r.g.sub a.dom r.src hget hy
    rw [List.drop_eq_getElem_cons hlt] at hl
    obtain ⟨ρ1, e1, hl⟩ := hl
    refine tg_ok (r.step g3 ok3) dy e1 fun σ1 r1 _ => ⟨L, Hi0, B, Hi2, ρ1, _, s.to r1, hl, fun fl hk => ?_⟩
    have a2 := a.trans g3.adv
    cases fl with
    | nx ρ2 => exact fun σ3 Hi3 H3 r3 a3 => ⟨Hi3, ρ2, r3, a2.trans a3, hk⟩
    | ct ρ2 => exact fun σ3 Hi3 H3 r3 a3 => ⟨Hi3, ρ2, r3, a2.trans a3, hk⟩
    | bk ρ2 => exact fun σ3 Hi3 H3 r3 a3 => ha _ hk σ3 Hi3 H3 r3 ((g1.adv.trans a2).trans a3)
    | rt av => exact ha _ hk
  · have ei : i = xs.length := by omega
    subst ei
    rw [List.drop_length] at hl
    exact .inl ⟨it.stop _ Hi' H' a.mono r.g.sub a.dom r.src rfl, ha _ hl _ _ _ r (g1.adv.trans a)⟩
theorem rs_whl {c : List SV → (Bool → Prop) → Prop} {f : List SV → KF → Prop} (h : tS l x (fun ρ k => ∃ n, whlW c f n ρ k) D σ H) : tWhile (tT l x c) (tS l x f) D σ H := by
  obtain ⟨L, Hi0, B, Hi, ρ, k, s, ⟨n, hf⟩, ha⟩ := h
  refine ⟨fun m σ' H' => ∃ Hi' ρ', Rel l.K L Hi0 B Hi' σ' H' ρ' ∧ Adv Hi H Hi' H' ∧ whlW c f m ρ' k, ⟨n, Hi, ρ, s.r, Adv.refl, hf⟩, ?_⟩
  rintro m σ' H' ⟨Hi', ρ', r, a, hw⟩
  cases m with
  | zero => exact hw.elim
  | succ m =>
    have hw : c ρ' fun t => if t = true then f ρ' (fun fl => match fl with
      | .nx ρ2 => whlW c f m ρ2 k
      | .ct ρ2 => whlW c f m ρ2 k
      | .bk ρ2 => k (.nx ρ2)
      | .rt a => k (.rt a)) else k (.nx ρ') := hw
    refine ⟨L, Hi0, B, Hi', ρ', _, (s.to r).stt, hw, fun t ht Hi1 H1 g1 ok1 => ?_⟩
    cases t with
    | false => exact ha _ ht _ _ _ (r.step g1 ok1) (a.trans g1.adv)
    | true =>
      refine ⟨fun σ2 H2 => ∃ Hi2 ρ2, Rel l.K L Hi0 B Hi2 σ2 H2 ρ2 ∧ Adv Hi H Hi2 H2 ∧ whlW c f m ρ2 k, fun σ2 H2 h2 => ⟨m, Nat.lt_succ_self m, h2⟩, L, Hi0, B, Hi1, ρ', _, s.to (r.step g1 ok1), ht, fun fl hk => ?_⟩
      have a2 := a.trans g1.adv
      cases fl with
      | nx ρ2 => exact fun σ3 Hi3 H3 r3 a3 => ⟨Hi3, ρ2, r3, a2.trans a3, hk⟩
      | ct ρ2 => exact fun σ3 Hi3 H3 r3 a3 => ⟨Hi3, ρ2, r3, a2.trans a3, hk⟩
      | bk ρ2 => exact fun σ3 Hi3 H3 r3 a3 => ha _ hk σ3 Hi3 H3 r3 (a2.trans a3)
      | rt av => exact ha _ hk
end
end Un
end
section
/-! Un: an except suite: isinstance of the error caught, then a list of one text is given back. -/
namespace Un
open PySem PySem.Spec L2

/-! ### the checker -/
def errB (nc : Nc) (sc : Scope) (z : Str) (d : Nat) : Bool := glB sc z && !(z == ("__debug__" : Str)) && ((decide (d = 1000) && decide (z = ("ValueError" : Str))) || nc.errs.contains (z, d))
def nmB (nc : Nc) (sc : Scope) (d : Nat) (e : Expr) : Bool := match asName e with
  | some z => errB nc sc z d
  | none => false
def nmsB (nc : Nc) (sc : Scope) : List Nat → List Expr → Bool
  | [], [] => true
  | d :: ds, e :: es => nmB nc sc d e && nmsB nc sc ds es
  | _, _ => false
def vrB (nc : Nc) (sc : Scope) (i : Nat) (e : Expr) : Bool := match asName e with
  | some y => varB nc sc i y
  | none => false
def isiB (nc : Nc) (sc : Scope) (i : Nat) (vt : Expr → Bool) (e : Expr) : Bool := match asCall e with
  | some (x, [a, t], []) => decide (x = ("isinstance" : Str)) && glB sc "isinstance" && vrB nc sc i a && vt t
  | _ => false
/-- a test, as a value; ow: the suite's own slot is set -/
def uvB (nc : Nc) (sc : Scope) (i j : Nat) (ow : Bool) : Ue → Expr → Bool
  | .isi d, e => isiB nc sc i (nmB nc sc d) e
  | .isT ds, e => isiB nc sc i (fun t => match asTup t with
    | some es => decide (ds.length ≤ 100) && nmsB nc sc ds es
    | none => false) e
  | .own, e => ow && vrB nc sc j e
  | .and a b, e => boolB .And (uvB nc sc i j ow a) (uvB nc sc i j ow b) e
  | .not a, e => match asUn e with
    | some (op, a') => decide (op = .Not) && uvB nc sc i j ow a a'
    | none => false
/-- .. as a test -/
def utB (nc : Nc) (sc : Scope) (i j : Nat) (ow : Bool) : Ue → Expr → Bool
  | .and a b, e => boolB .And (utB nc sc i j ow a) (utB nc sc i j ow b) e
  | .not a, e => match asUn e with
    | some (op, a') => decide (op = .Not) && utB nc sc i j ow a a'
    | none => false
  | u, e => plainT e && uvB nc sc i j ow u e
def lsB (z : Str) (e : Expr) : Bool := match asLst e with
  | some [.Constant (.str y) _ _] => decide (y = z)
  | _ => false
def suB (nc : Nc) (sc : Scope) (i : Nat) : Su → List Stmt → Bool
  | .ret z, [st] => (match asRet st with
    | some (some e) => lsB z e
    | _ => false)
  | .cond j o t a b, [s1, s2] => (match asAsg s1, asRet s2 with
    | some (tg, v, p), some (some e) => (match asName tg, asIf e with
      | some y, some (c, ea, eb) => decide (nc.N[j]? = some y) && decide (j ≠ i) && locB sc y && !isCompr v && uvB nc sc i j false o v && utB nc sc i j true t c && lsB a ea && lsB b eb
      | _, _ => false)
    | _, _ => false)
  | _, _ => false

/-! ### readings -/
structure UP (i j : Nat) (a : Addr) (o : Option Bool) (σ : L2.St) : Prop where
  ci : σ[i]? = some (some (.ref a))
  cj : ∀ v, o = some v → σ[j]? = some (some (.bl v))
def tUv (i j : Nat) (a : Addr) (o : Option Bool) (b : Bool) : TE := fun σ H Q => UP i j a o σ ∧ ∀ H', Same H H' → Q (.bl b) H'
def tUt (i j : Nat) (a : Addr) (o : Option Bool) (b : Bool) : TT := fun σ H Q => UP i j a o σ ∧ ∀ H', Same H H' → Q b H'
/-- isinstance(e, (C, ..)), e the exception that the suite holds -/
def rIsET (K : PySem.W.Frag) (D a : Addr) : List V → Hp → VK → Prop := fun xs H Q => ∃ (tp : Addr) (cs : List V) (us : List Value) (b : Bool), xs = [.ref a, .ref tp] ∧ H tp = some (.tup cs) ∧ Paired ClsV cs us ∧ PySem.W.kitAny K (.ref D) us = some b ∧ Q (.bl b) H
theorem call_isET {X : Cx} {a D : Addr} {oe : Obj} {pn : List (Addr × Obj)} (C : ExcC X.K D) (hz : Zc (.ref D) none oe) (hf : ∃ vs, oe.data = .fields vs) : CallR (X.suite a ((a, oe) :: pn)) (.builtin "isinstance") (rIsET X.K D a) := by
  intro pins s σ H xs us Q I r h
  obtain ⟨tp, cs, ws, b, rfl, hT, k, e, q⟩ := h
  obtain ⟨u1, u2, rfl, r1, r2⟩ := vals2 r
  cases (show u1 = Value.ref a from r1)
  cases (show u2 = Value.ref tp from r2)
  obtain ⟨hget, _⟩ := I.pin (a, oe) (List.mem_append.mpr (.inl List.mem_cons_self))
  obtain ⟨vs, hv⟩ := hf
  have J : PySem.W.InstAt s.heap a oe D none := by
    obtain ⟨oc, od, oda, osl⟩ := oe
    obtain ⟨h1, h2⟩ := hz
    dsimp only at h1 h2 hv
    subst h1 h2 hv
    exact ⟨hget, rfl, rfl, trivial⟩
  obtain ⟨_, its, rv, o, h1, h2, n, h3⟩ := (show ObjOk X.prog X.w H s.heap tp (.tup cs) from I.hok tp _ hT)
  have e3 := ClsV.all k rv
  subst e3
  obtain ⟨oc, od, dt, sl⟩ := o
  simp only at h2 h3
  subst h2 h3
  exact PySem.W.kia_tup (PySem.W.handS_kitx_exc C.hg C.hk C.hs C.hd C.ha C.hn C.ht C.hm) I.kIn J h1 e (fun z => nomatch z) fun tk => ⟨.bl b, H, I.tok tk, rfl, q⟩

/-! ### tests -/
section
variable {X : Cx} {nc : Nc} {sc : Scope} {l : Lay} {i j : Nat} {a C : Addr} {oe : Obj} {pn : List (Addr × Obj)} {c : Nat} {o : Option Bool}
/-- what the suite's context knows -/
structure SuX (X : Cx) (nc : Nc) (sc : Scope) (C : Addr) (c : Nat) : Prop where
  N : X.N = nc.N
  sc : X.env.scope = sc
  isi : X.mg "isinstance" = none
  ve : nc.errs ≠ [] → X.mg "ValueError" = none
  kve : PySem.W.kitOne X.K (.ref C) (.type "ValueError") = some true
  cls : ∀ e ∈ nc.errs, ∃ D, X.mg e.1 = some (.ref D) ∧ PySem.W.kitOne X.K (.ref C) (.ref D) = some (hitE c e.2)
  ne : nc.errs ≠ []
theorem gl_of (h : X.env.scope = sc) {z : Str} (g : glB sc z = true) : Gl X z := by
  show X.env.scope.names.lookup z = _
  rw [h]
  exact glB_eq g
theorem err_ok (S : SuX X nc sc C c) {z : Str} {d : Nat} {p : Pos} (h : errB nc sc z d = true) : ∃ v cv, PE X (.Name z p) (tC v) ∧ ClsV v cv ∧ PySem.W.kitOne X.K (.ref C) cv = some (hitE c d) := by
  unfold errB at h
  simp only [Bool.and_eq_true, Bool.or_eq_true, Bool.not_eq_true', decide_eq_true_eq] at h
  obtain ⟨⟨h1, h2⟩, ⟨rfl, rfl⟩ | h3⟩ := h
  · refine ⟨.ty "ValueError", .type "ValueError", pe_bltn (gl_of S.sc h1) (S.ve S.ne) PyProof.Rows.Boot.«ValueError» rfl (by decide) (by decide), .ty _, ?_⟩
    rw [S.kve]
    simp [hitE]
  · obtain ⟨D, m, k⟩ := S.cls _ (List.contains_iff_mem.mp h3)
    exact ⟨.ref D, .ref D, pe_glob (gl_of S.sc h1) m rfl h2, .own D, k⟩
theorem nm_ok (S : SuX X nc sc C c) {e : Expr} {d : Nat} (h : nmB nc sc d e = true) : ∃ v cv, PE X e (tC v) ∧ ClsV v cv ∧ PySem.W.kitOne X.K (.ref C) cv = some (hitE c d) ∧ notStar e = true := by
  unfold nmB at h
  split at h
  · rename_i z hz
    obtain ⟨p, rfl⟩ := asName_eq hz
    obtain ⟨v, cv, h1, h2, h3⟩ := err_ok S (p := p) h
    exact ⟨v, cv, h1, h2, h3, rfl⟩
  · cases h
theorem nms_ok (S : SuX X nc sc C c) : ∀ {ds : List Nat} {es : List Expr}, nmsB nc sc ds es = true → ∃ vs us, PA X es (fun _ H Q => Q vs H) ∧ Paired ClsV vs us ∧ PySem.W.kitAny X.K (.ref C) us = some (ds.any (hitE c)) ∧ vs.length = ds.length
  | [], [], _ => ⟨[], [], pa_nil, .nil, rfl, rfl⟩
  | d :: ds, e :: es, h => by
    unfold nmsB at h
    rw [Bool.and_eq_true] at h
    obtain ⟨v, cv, h1, h2, h3, h4⟩ := nm_ok S h.1
    obtain ⟨vs, us, g1, g2, g3, g4⟩ := nms_ok S h.2
    refine ⟨v :: vs, cv :: us, pa_cons h1 g1 (star_cons h4 es X.env), .cons h2 g2, ?_, by rw [List.length_cons, List.length_cons, g4]⟩
    refine kitAny_cons h3 (fun hb => ?_) fun hb => ?_
    · rw [List.any_cons, hb, Bool.false_or]
      exact g3
    · rw [List.any_cons, hb, Bool.true_or]
  | [], _ :: _, h => nomatch h
  | _ :: _, [], h => nomatch h
theorem vr_ok (S : SuX X nc sc C c) {e : Expr} {n : Nat} (h : vrB nc sc n e = true) : PE X e (tVar n) ∧ notStar e = true := by
  unfold vrB at h
  split at h
  · rename_i y hy
    obtain ⟨p, rfl⟩ := asName_eq hy
    unfold varB at h
    simp only [Bool.and_eq_true, decide_eq_true_eq, Bool.not_eq_true'] at h
    obtain ⟨⟨⟨h1, h2⟩, h3⟩, h4⟩ := h
    exact ⟨pe_var (by rw [S.N]; exact h1) (by rw [S.sc]; exact visB_eq h2) h3 h4, rfl⟩
  · cases h
end
section
variable {X : Cx} {nc : Nc} {sc : Scope} {l : Lay} {i j : Nat} {a C : Addr} {c : Nat}
theorem uv_ok (S : SuX X nc sc C c) (h1 : CallR X (.builtin "isinstance") (rIsE X.K C a)) (h2 : CallR X (.builtin "isinstance") (rIsET X.K C a)) {ow : Bool} {o : Bool} : ∀ (u : Ue) (e : Expr), uvB nc sc i j ow u e = true → PE X e (tUv i j a (if ow = true then some o else none) (u.val c o))
  | .isi d, e, h => by
    unfold uvB isiB at h
    split at h
    · rename_i x ea t hx
      simp only [Bool.and_eq_true, decide_eq_true_eq] at h
      obtain ⟨⟨⟨rfl, g1⟩, g2⟩, g3⟩ := h
      obtain ⟨p, q, rfl⟩ := asCall_eq hx
      obtain ⟨pa, na⟩ := vr_ok S g2
      obtain ⟨v, cv, pt, k1, k2, nt⟩ := nm_ok S g3
      refine (pe_callB h1 (gl_of S.sc g1) S.isi (by decide +kernel) (pa_cons pa (ca1 pt nt) (star_cons na [t] X.env)) (by decide) (by decide) (star_cons na [t] X.env) (star_plain (by simp [nt]))).imq fun σ H Q q => ?_
      exact ⟨_, q.1.ci, v, cv, _, rfl, fun u r => k1.eq r, k2, q.2 H (Same.refl _)⟩
    · cases h
  | .isT ds, e, h => by
    unfold uvB isiB at h
    split at h
    · rename_i x ea t hx
      simp only [Bool.and_eq_true, decide_eq_true_eq] at h
      obtain ⟨⟨⟨rfl, g1⟩, g2⟩, g3⟩ := h
      obtain ⟨p, q, rfl⟩ := asCall_eq hx
      obtain ⟨pa, na⟩ := vr_ok S g2
      split at g3
      · rename_i es hes
        obtain ⟨k, p2, rfl⟩ := asTup_eq hes
        rw [Bool.and_eq_true, decide_eq_true_eq] at g3
        obtain ⟨vs, us, k1, k2, k3, k4⟩ := nms_ok S g3.2
        refine (pe_callB h2 (gl_of S.sc g1) S.isi (by decide +kernel) (pa_cons pa (ca1 (pe_tup k1) rfl) (star_cons na _ X.env)) (by decide) (by decide) (star_cons na _ X.env) (star_plain (by rfl))).imq fun σ H Q q => ?_
        refine ⟨_, q.1.ci, ?_, fun p hp => ⟨p, vs, us, _, rfl, by rw [upd_same], k2, k3, q.2 _ fun b ob hb => ?_⟩⟩
        · rw [sizeLine_eq]
          have := g3.1
          omega
        · rw [upd_ne (ne_of_none hb hp)]
          exact hb
      · cases g3
    · cases h
  | .own, e, h => by
    unfold uvB at h
    rw [Bool.and_eq_true] at h
    obtain ⟨pa, na⟩ := vr_ok S h.2
    refine pa.imq fun σ H Q q => ?_
    exact ⟨_, q.1.cj o (by rw [h.1] <;> rfl), q.2 H (Same.refl _)⟩
  | .and u w, e, h => by
    unfold uvB at h
    obtain ⟨ea, eb, r, p, rfl, g1, g2⟩ := boolB_ok h
    have fin : ∀ σ H Q, tUv i j a (if ow = true then some o else none) ((Ue.and u w).val c o) σ H Q → tAndV (tUv i j a (if ow = true then some o else none) (u.val c o)) (tUv i j a (if ow = true then some o else none) (w.val c o)) σ H Q := fun σ H Q q => by
      refine ⟨q.1, fun H' s' => ⟨_, rfl, ?_⟩⟩
      by_cases hb : u.val c o = true
      · rw [if_pos hb]
        refine ⟨q.1, fun H2 s2 => ?_⟩
        have := q.2 H2 (s'.trans s2)
        unfold Ue.val at this
        rw [hb, Bool.true_and] at this
        exact this
      · rw [if_neg hb]
        have := q.2 H' s'
        unfold Ue.val at this
        rw [Bool.eq_false_iff.mpr hb, Bool.false_and] at this
        exact this
    cases r with
    | nil => exact (pe_and (uv_ok S h1 h2 u ea g1) (pe_one (uv_ok S h1 h2 w eb g2))).imq fin
    | cons y r => exact (pe_and (uv_ok S h1 h2 u ea g1) (uv_ok S h1 h2 w _ g2)).imq fin
  | .not u, e, h => by
    unfold uvB at h
    split at h
    · rename_i op e' hx
      obtain ⟨p, rfl⟩ := asUn_eq hx
      rw [Bool.and_eq_true, decide_eq_true_eq] at h
      obtain ⟨rfl, g⟩ := h
      refine (pe_not (uv_ok S h1 h2 u e' g)).imq fun σ H Q q => ⟨q.1, fun H' s' => ⟨_, rfl, q.2 H' s'⟩⟩
    · cases h
theorem ut_of {ow : Bool} {o : Bool} {u : Ue} {e : Expr} (hp : plainT e = true) (h : PE X e (tUv i j a (if ow = true then some o else none) (u.val c o))) : PT X e (tUt i j a (if ow = true then some o else none) (u.val c o)) :=
  (pt_val h (plainT_eq hp X.env)).imq fun σ H Q q => ⟨q.1, fun H' s' => ⟨_, rfl, q.2 H' s'⟩⟩
theorem ut_ok (S : SuX X nc sc C c) (h1 : CallR X (.builtin "isinstance") (rIsE X.K C a)) (h2 : CallR X (.builtin "isinstance") (rIsET X.K C a)) {ow : Bool} {o : Bool} : ∀ (u : Ue) (e : Expr), utB nc sc i j ow u e = true → PT X e (tUt i j a (if ow = true then some o else none) (u.val c o))
  | .isi d, e, h => by
    replace h : (plainT e && uvB nc sc i j ow (.isi d) e) = true := h
    rw [Bool.and_eq_true] at h
    exact ut_of h.1 (uv_ok S h1 h2 _ e h.2)
  | .isT ds, e, h => by
    replace h : (plainT e && uvB nc sc i j ow (.isT ds) e) = true := h
    rw [Bool.and_eq_true] at h
    exact ut_of h.1 (uv_ok S h1 h2 _ e h.2)
  | .own, e, h => by
    replace h : (plainT e && uvB nc sc i j ow .own e) = true := h
    rw [Bool.and_eq_true] at h
    exact ut_of h.1 (uv_ok S h1 h2 _ e h.2)
  | .and u w, e, h => by
    unfold utB at h
    obtain ⟨ea, eb, r, p, rfl, g1, g2⟩ := boolB_ok h
    have fin : ∀ σ H Q, tUt i j a (if ow = true then some o else none) ((Ue.and u w).val c o) σ H Q → tAnd (tUt i j a (if ow = true then some o else none) (u.val c o)) (tUt i j a (if ow = true then some o else none) (w.val c o)) σ H Q := fun σ H Q q => by
      refine ⟨q.1, fun H' s' => ?_⟩
      dsimp only
      by_cases hb : u.val c o = true
      · rw [if_pos hb]
        refine ⟨q.1, fun H2 s2 => ?_⟩
        have := q.2 H2 (s'.trans s2)
        unfold Ue.val at this
        rw [hb, Bool.true_and] at this
        exact this
      · rw [if_neg hb]
        have := q.2 H' s'
        unfold Ue.val at this
        rw [Bool.eq_false_iff.mpr hb, Bool.false_and] at this
        exact this
    cases r with
    | nil => exact ((pw_and (ut_ok S h1 h2 u ea g1) (pw_and1 (ut_ok S h1 h2 w eb g2))).pt).imq fin
    | cons y r => exact ((pw_and (ut_ok S h1 h2 u ea g1) (pw_of (ut_ok S h1 h2 w _ g2))).pt).imq fin
  | .not u, e, h => by
    unfold utB at h
    split at h
    · rename_i op e' hx
      obtain ⟨p, rfl⟩ := asUn_eq hx
      rw [Bool.and_eq_true, decide_eq_true_eq] at h
      obtain ⟨rfl, g⟩ := h
      exact (pt_not (ut_ok S h1 h2 u e' g)).imq fun σ H Q q => ⟨q.1, fun H' s' => q.2 H' s'⟩
    · cases h
/-- [z] -/
theorem ls_ok {z : Str} {e : Expr} (h : lsB z e = true) : PE X e (fun _ H Q => ∀ p, H p = none → Q (.ref p) (upd H p (.lst [.str z]))) := by
  unfold lsB at h
  split at h
  · rename_i y k1 p1 hx
    obtain ⟨p, rfl⟩ := asLst_eq hx
    obtain rfl := of_decide_eq_true h
    exact (pe_lst (pa_cons pe_str pa_nil)).imq fun σ H Q q => ⟨by rw [sizeLine_eq]; show 1 ≤ 16777216; decide, q⟩
  · cases h
/-- what a suite gives back -/
def tSu (i n : Nat) (a : Addr) (z : Str) : TS := fun D σ H => σ[i]? = some (some (.ref a)) ∧ ∀ H' p, Same H H' → H' p = none → D.rt (.ref p) (upd H' p (.lst [.str z]))
theorem su_ok (hN : X.N.Nodup) (hfn : ∀ x, X.fn x = true) (S : SuX X nc sc C c) (h1 : CallR X (.builtin "isinstance") (rIsE X.K C a)) (h2 : CallR X (.builtin "isinstance") (rIsET X.K C a)) {n : Nat} : ∀ (su : Su) (sts : List Stmt), suB nc sc i su sts = true → PSs X sts (tSu i n a (su.ans c)) := fun su sts h => by
  cases su with
  | ret z =>
    cases sts with
    | nil => cases h
    | cons st r =>
      cases r with
      | cons _ _ => cases h
      | nil =>
        replace h : (match asRet st with
          | some (some e) => lsB z e
          | _ => false) = true := h
        split at h
        · rename_i e hx
          obtain ⟨p, rfl⟩ := asRet_eq hx
          exact ⟨fun pins s σ H D I q => (pss_cons (ps_ret (ls_ok h)) pss_nil).run pins s σ H D I fun p hp => q.2 H p (Same.refl _) hp⟩
        · cases h
  | cond j o t z1 z2 =>
    cases sts with
    | nil => cases h
    | cons s1 r =>
      cases r with
      | nil => cases h
      | cons s2 r =>
        cases r with
        | cons _ _ => cases h
        | nil =>
          replace h : (match asAsg s1, asRet s2 with
            | some (tg, v, p), some (some e) => (match asName tg, asIf e with
              | some y, some (c, ea, eb) => decide (nc.N[j]? = some y) && decide (j ≠ i) && locB sc y && !isCompr v && uvB nc sc i j false o v && utB nc sc i j true t c && lsB z1 ea && lsB z2 eb
              | _, _ => false)
            | _, _ => false) = true := h
          split at h
          · rename_i tg v p e k1 k2
            obtain rfl := asAsg_eq k1
            obtain ⟨p2, rfl⟩ := asRet_eq k2
            split at h
            · rename_i y cc ea eb k3 k4
              obtain ⟨p3, rfl⟩ := asName_eq k3
              obtain ⟨p4, rfl⟩ := asIf_eq k4
              simp only [Bool.and_eq_true, decide_eq_true_eq, Bool.not_eq_true'] at h
              obtain ⟨⟨⟨⟨⟨⟨⟨g1, g2⟩, g3⟩, g4⟩, g5⟩, g6⟩, g7⟩, g8⟩ := h
              have hj : X.N[j]? = some y := by rw [S.N]; exact g1
              refine ⟨fun pins s σ H D I q => (pss_cons (ps_set hN hj (by rw [S.sc]; exact locB_eq g3) (uv_ok (j := j) S h1 h2 (ow := false) (o := false) o v g5) (swaps_no g4 _ _ _) (.inl (hfn y)))
                (pss_cons (ps_ret (pe_ifExp (ut_ok (j := j) S h1 h2 (ow := true) (o := o.val c false) t cc g6) (ls_ok g7) (ls_ok g8))) pss_nil)).run pins s σ H D I ?_⟩
              have hlt : j < σ.length := by
                rw [I.len]
                exact (List.getElem?_eq_some_iff.mp hj).1
              refine ⟨⟨q.1, fun _ z => nomatch z⟩, fun H1 s1 => ?_⟩
              refine ⟨⟨?_, fun v hv => ?_⟩, fun H2 s2 => ?_⟩
              · rw [List.getElem?_set_ne g2]
                exact q.1
              · cases hv
                rw [List.getElem?_set_self hlt]
              · dsimp only
                have q2 := q.2
                have e : Su.ans c (.cond j o t z1 z2) = if t.val c (o.val c false) = true then z1 else z2 := rfl
                by_cases hb : t.val c (o.val c false) = true
                · rw [if_pos hb]
                  rw [e, if_pos hb] at q2
                  exact fun p hp => q2 H2 p (s1.trans s2) hp
                · rw [if_neg hb]
                  rw [e, if_neg hb] at q2
                  exact fun p hp => q2 H2 p (s1.trans s2) hp
            · cases h
          · cases h
end
end Un
end
section
/-! Un: statements: the checker and what it means. -/
namespace Un
open PySem PySem.Spec L2

structure Cs where
  s : Stmt → Bool
  b : List Stmt → Bool
def noS : Cs := ⟨fun _ => false, fun _ => false⟩
def setS (nc : Nc) (sc : Scope) (i : Nat) (ve lb : Expr → Bool) (st : Stmt) : Bool := match asAsg st with
  | some (.Name y py, e, _) => setB nc sc i y py ve e || setLcB nc sc i y py lb e
  | _ => false
def lcOf (nc : Nc) (sc : Scope) : E → Expr → Bool
  | .cmp own elt tg it c, e => lcB nc own tg (isNo c) (chk nc elt).v (chk nc it).i (chk nc c).t sc e
  | _, _ => false
def unpS (nc : Nc) (sc : Scope) (is : List Nat) (ve : Expr → Bool) (st : Stmt) : Bool := match asAsg st with
  | some (t, e, _) => tgB nc sc (.tp is) t && ve e && (asTup e).isNone
  | none => false
def nodupB : List Nat → Bool
  | [] => true
  | i :: r => !r.contains i && nodupB r
def parS (nc : Nc) (sc : Scope) (is : List Nat) (ca : List Expr → Bool) (st : Stmt) : Bool := match asAsg st with
  | some (t, e, _) => (match asTup t, asTup e with
    | some ts, some vs => tgB nc sc (.tp is) t && ca vs && vs.all notStar && decide (is.length ≤ 1000) && (parTup sc ts vs || (parSwap sc ts vs && nodupB is && (match is, parNames sc ts with
      | [i, j], [x, y] => decide (nc.N[i]? = some x) && decide (nc.N[j]? = some y) && decide (sc.names.lookup x = some .local) && decide (sc.names.lookup y = some .local) && decide (ts.filterMap asName = [x, y]) && (vs.length == 2)
      | [i, j, m], [x, y, z] => decide (nc.N[i]? = some x) && decide (nc.N[j]? = some y) && decide (nc.N[m]? = some z) && decide (sc.names.lookup x = some .local) && decide (sc.names.lookup y = some .local) && decide (sc.names.lookup z = some .local) &&
        decide (ts.filterMap asName = [x, y, z]) && (vs.length == 3)
      | _, _ => false)))
    | _, _ => false)
  | none => false
def putS (nc : Nc) (sc : Scope) (i : Nat) (vj ve : Expr → Bool) (st : Stmt) : Bool := match asAsg st with
  | some (t, e, _) => (match asSub t with
    | some (o, ix) => (match asName o with
      | some x => varB nc sc i x && notSlc ix && vj ix && ve e
      | none => false)
    | none => false)
  | none => false
def appS (nc : Nc) (sc : Scope) (i : Nat) (ve : Expr → Bool) (st : Stmt) : Bool := match asExp st with
  | some (e, _) => (match asApp e with
    | some (x, v, ap, cp) => varB nc sc i x && notStar v && ve v && (ap.endLine == cp.line)
    | none => false)
  | none => false
def asTry : Stmt → Option (List Stmt × Str × Str × List Stmt)
  | .Try body [.ExceptHandler (some (.Name z _)) (some n) suite _] [] [] _ => some (body, z, n, suite)
  | _ => none
theorem asTry_eq {st : Stmt} {body suite : List Stmt} {z n : Str} (h : asTry st = some (body, z, n, suite)) : ∃ p p1 p2, st = .Try body [.ExceptHandler (some (.Name z p)) (some n) suite p1] [] [] p2 := by
  unfold asTry at h
  split at h
  · cases h; exact ⟨_, _, _, rfl⟩
  · cases h
def asRse : Stmt → Option Str
  | .Raise (some (.Call (.Name z _) [] [] _)) none _ => some z
  | _ => none
theorem asRse_eq {st : Stmt} {z : Str} (h : asRse st = some z) : ∃ p p1 p2, st = .Raise (some (.Call (.Name z p) [] [] p1)) none p2 := by
  unfold asRse at h
  split at h
  · cases h; exact ⟨_, _, _, rfl⟩
  · cases h
def erB (nc : Nc) (sc : Scope) (z : Str) (d : Nat) : Bool := glB sc z && !(z == ("__debug__" : Str)) && nc.errs.contains (z, d)
def chkS (nc : Nc) (sc : Scope) : Sm → Cs
  | .set i e => { noS with s := setS nc sc i ((chk nc e).v sc) (lcOf nc sc e) }
  | .unp is e => { noS with s := unpS nc sc is ((chk nc e).v sc) }
  | .par is es => { noS with s := parS nc sc is ((chk nc es).a sc) }
  | .put i j e => { noS with s := putS nc sc i ((chk nc j).v sc) ((chk nc e).v sc) }
  | .app i e => { noS with s := appS nc sc i ((chk nc e).v sc) }
  | .ret e => { noS with s := fun st => match asRet st with
    | some (some v) => (chk nc e).v sc v
    | _ => false }
  | .retN => { noS with s := fun st => match asRet st with
    | some none => true
    | _ => false }
  | .drop e => { noS with s := fun st => match asExp st with
    | some (v, _) => (chk nc e).v sc v && !isCompr v
    | _ => false }
  | .ifs c a b => { noS with s := fun st => match asIfS st with
    | some (ec, sa, sb) => (chk nc c).t sc ec && (chkS nc sc a).b sa && (chkS nc sc b).b sb
    | none => false }
  | .loop tg it b => { noS with s := fun st => match asFor st with
    | some (t, i, sb) => tgB nc sc tg t && (chk nc it).i sc t i && (chkS nc sc b).b sb
    | none => false }
  | .whl c b => { noS with s := fun st => match asWhl st with
    | some (ec, sb) => (chk nc c).t sc ec && (chkS nc sc b).b sb
    | none => false }
  | .brk => { noS with s := fun st => match st with
    | .Break _ => true
    | _ => false }
  | .cnt => { noS with s := fun st => match st with
    | .Continue _ => true
    | _ => false }
  | .pass => { noS with s := fun st => match st with
    | .Pass _ => true
    | _ => false }
  | .frz _ => noS
  | .rse => { noS with s := fun st => match st with
    | .Raise _ _ _ => true
    | _ => false }
  | .rs c => { noS with s := fun st => match asRse st with
    | some z => erB nc sc z c && decide (0 < c) && decide (c < 500) && decide (0 < nc.k)
    | none => false }
  | .tryx b c i su => { noS with s := fun st => match asTry st with
    | some (body, z, n, suite) => (chkS nc sc b).b body && erB nc sc z c && decide (nc.N[i]? = some n) && decide (sc.names.lookup n = some .local) && suB nc sc i su suite
    | none => false }
  | .nil => { noS with b := fun sts => sts.isEmpty }
  | .cons (.frz _) r => { noS with b := fun sts => (chkS nc sc r).b sts }
  | .cons s r => { noS with b := fun sts => match sts with
    | st :: sts => (chkS nc sc s).s st && (chkS nc sc r).b sts
    | [] => false }
structure SFit (X : Cx) (nc : Nc) (sc : Scope) (l : Lay) (fe : FE) : Prop where
  f : Fit X nc sc l fe
  fn : ∀ x, X.fn x = true
  po : PassesOwn (model X.prog X.w) X.A X.env X.xe
  stk : X.stack = X.env :: X.outer
  frm : X.env.frame = some X.env.locals
structure SSnd (X : Cx) (l : Lay) (x : KX) (f : List SV → KF → Prop) (c : Cs) : Prop where
  s : ∀ st, c.s st = true → PS X st (tS l x f)
  b : ∀ sts, c.b sts = true → PSs X sts (tS l x f)
theorem _root_.L2.PS.imq {X : Cx} {e : Stmt} {t t' : TS} (h : PS X e t) (i : ∀ D σ H, t' D σ H → t D σ H) : PS X e t' := ⟨fun pins s σ H D I q => h.run pins s σ H D I (i _ _ _ q)⟩
theorem _root_.L2.PSs.imq {X : Cx} {e : List Stmt} {t t' : TS} (h : PSs X e t) (i : ∀ D σ H, t' D σ H → t D σ H) : PSs X e t' := ⟨fun pins s σ H D I q => h.run pins s σ H D I (i _ _ _ q)⟩
section
variable {nc : Nc} {fe : FE}
theorem SFit.own {X : Cx} {sc : Scope} {l : Lay} (F : SFit X nc sc l fe) : ∀ x, locB sc x = true → Own X x := fun x h => ⟨by rw [F.f.sc]; exact locB_eq h, .inl (F.fn x)⟩
theorem SFit.tg {X : Cx} {sc : Scope} {l : Lay} (F : SFit X nc sc l fe) {tg : Tg} {e : Expr} (h : tgB nc sc tg e = true) : PG X e (gTg l.K tg) := tgB_ok F.f.N F.f.nd F.f.K F.f.calm F.own h
theorem nodupB_eq : ∀ {is : List Nat}, nodupB is = true → is.Nodup
  | [], _ => List.nodup_nil
  | i :: r, h => by
    unfold nodupB at h
    rw [Bool.and_eq_true, Bool.not_eq_true'] at h
    refine List.nodup_cons.mpr ⟨fun z => ?_, nodupB_eq h.2⟩
    have := h.1
    rw [List.contains_iff_mem.mpr z] at this
    cases this
theorem ss_set {X : Cx} {sc : Scope} {l : Lay} {x : KX} (F : SFit X nc sc l fe) (i : Nat) (e : E) (st : Stmt) (h : setS nc sc i ((chk nc e).v sc) (lcOf nc sc e) st = true) : PS X st (tS l x (ex fe x (.set i e))) := by
  unfold setS at h
  split at h
  · rename_i y py v sp hx
    obtain rfl := asAsg_eq hx
    rw [Bool.or_eq_true] at h
    rcases h with h | h
    · unfold setB at h
      rw [Bool.and_eq_true, Bool.and_eq_true] at h
      obtain ⟨⟨h1, h2⟩, h3⟩ := h
      unfold ownB at h1
      rw [Bool.and_eq_true, decide_eq_true_eq] at h1
      have o := F.own y h1.2
      have hsw : swapsWith v (some (.Name y py)) sp.line X.env = pure false := by
        split at h3
        · rename_i el t it ifs scope pos hl
          have hl := asLc_eq hl
          subst hl
          exact sw_no (by rw [F.f.sc]; exact h3)
        · exact swaps_no (by simpa using h3) _ _ _
      exact (ps_set F.f.nd (by rw [F.f.N]; exact h1.1) o.1 ((snd e (x := x) F.f).v v h2) hsw o.2).imq fun D σ H q => rs_set q
    · unfold setLcB at h
      rw [Bool.and_eq_true, Bool.and_eq_true, decide_eq_true_eq] at h
      obtain ⟨⟨h0, h1⟩, h2⟩ := h
      cases e with
      | cmp own elt tg it c =>
        replace h1 : lcB nc own tg (isNo c) (chk nc elt).v (chk nc it).i (chk nc c).t sc v = true := h1
        unfold lcB at h1
        split at h1
        · rename_i el tge iter ifs scope pos hx
          rw [hx] at h2
          have hx := asLc_eq hx
          subst hx
          replace h2 : swB sc y py.line pos.line scope = true := h2
          unfold swB at h2
          simp only [Bool.and_eq_true, decide_eq_true_eq, Bool.not_eq_true'] at h2
          obtain ⟨⟨⟨w1, w2⟩, w3⟩, w4⟩ := h2
          simp only [Bool.and_eq_true] at h1
          obtain ⟨⟨⟨⟨⟨⟨q1, q2⟩, q3⟩, q4⟩, q5⟩, q6⟩, q7⟩ := h1
          have hown : tgIn tg own := by
            cases tg with
            | nm j =>
              show j ∈ own
              simpa using q3
            | tp is =>
              replace q3 : is.all own.contains = true := q3
              intro j hj
              have := List.all_eq_true.mp q3 j hj
              simpa using this
          have key := ps_setLc (X := X) (i := i) (y := y) (py := py) (spos := sp) (elt := el) (tg := tge) (iter := iter) (ifs := ifs) (scope := scope) (pos := pos) (own := ownOf nc.N own) (wi := tI l x (ev fe x it).i) (g := gTg l.K tg)
            (tt := tTs l (if isNo c = true then none else some (ev fe noX c).t)) (te := tV l.mute noX (ev fe noX elt).v) F.f.calm F.f.nd (by rw [F.f.N]; exact h0) (by rw [F.f.sc]; exact w2)
            (sw_true (by rw [F.f.sc]; exact w1) (by rw [F.f.sc]; exact w2) w3 w4) ((snd it (x := x) F.f).i tge iter q4).1
            (blkOk_by (by rw [F.f.N, F.f.sc]; exact q1))
            (fun s H C cl fp => tgB_ok (X := X.blk s H scope (compEnvC scope cl C X.env) fp) (nc := nc) (l := l) (sc := scope) F.f.N F.f.nd F.f.K F.f.calm (fun y hy => F.f.blkOwn s H scope cl C fp hy) q2)
            (fun s H C cl fp => by
              cases ifs with
              | nil =>
                replace q7 : isNo c = true := q7
                rw [if_pos q7]
                exact pts_nil
              | cons e0 r =>
                cases r with
                | nil =>
                  replace q7 : (!isNo c && (chk nc c).t (relS scope sc) e0) = true := q7
                  rw [Bool.and_eq_true, Bool.not_eq_true'] at q7
                  rw [if_neg (by rw [q7.1]; decide)]
                  exact pts_one ((snd c (x := noX) (F.f.blk s H scope cl C fp)).t e0 q7.2)
                | cons _ _ => cases q7)
            (fun s H C cl fp => (snd elt (x := noX) (F.f.blk s H scope cl C fp)).v el q6)
            (notSet_eq q5 X.env)
          rw [ownOf_map] at key
          refine key.imq fun D σ H q => ?_
          have q' := rs_set q
          exact rd_lc hown q'
        · cases h1
      | _ => cases h1
  · cases h
theorem ss_unp {X : Cx} {sc : Scope} {l : Lay} {x : KX} (F : SFit X nc sc l fe) (is : List Nat) (e : E) (st : Stmt) (h : unpS nc sc is ((chk nc e).v sc) st = true) : PS X st (tS l x (ex fe x (.unp is e))) := by
  unfold unpS at h
  split at h
  · rename_i t v sp hx
    obtain rfl := asAsg_eq hx
    rw [Bool.and_eq_true, Bool.and_eq_true] at h
    obtain ⟨⟨h1, h2⟩, h3⟩ := h
    have g := F.tg h1
    have h1' : (match asTup t with
      | some es => (es.length == is.length) && (is.zip es).all (fun p => match asName p.2 with
        | some x => ownB nc sc p.1 x
        | none => false)
      | none => false) = true := h1
    cases ht : asTup t with
    | none =>
      rw [ht] at h1'
      cases h1'
    | some ts =>
      obtain ⟨k, p, rfl⟩ := asTup_eq ht
      refine (ps_asg ((snd e (x := x) F.f).v v h2) g ?_ ?_ rfl).imq fun D σ H q => rs_unp q
      · show swapsWith v (some (.Tuple ts k p)) sp.line X.env = pure false
        cases v <;> rfl
      · cases v <;> first | rfl | (simp [asTup] at h3; done)
  · cases h
theorem names_of {nc : Nc} {sc : Scope} : ∀ {is : List Nat} {ts : List Expr}, ((is.zip ts).all fun p => match asName p.2 with
    | some x => ownB nc sc p.1 x
    | none => false) = true → ts.length = is.length → ∀ (j : Nat) t, ts[j]? = some t → ∃ y p, t = .Name y p
  | [], [], _, _, j, t, e => by simp at e
  | [], _ :: _, _, h, _, _, _ => nomatch h
  | _ :: _, [], _, h, _, _, _ => nomatch h
  | i :: is, t0 :: ts, h, hl, j, t, e => by
    rw [List.zip_cons_cons, List.all_cons, Bool.and_eq_true] at h
    cases j with
    | zero =>
      simp at e
      subst e
      have h1 := h.1
      dsimp only at h1
      split at h1
      · rename_i y hy
        obtain ⟨p, rfl⟩ := asName_eq hy
        exact ⟨y, p, rfl⟩
      · cases h1
    | succ j => exact names_of h.2 (by simpa using hl) j t (by simpa using e)
theorem ss_par {X : Cx} {sc : Scope} {l : Lay} {x : KX} (F : SFit X nc sc l fe) (is : List Nat) (e : E) (st : Stmt) (h : parS nc sc is ((chk nc e).a sc) st = true) : PS X st (tS l x (ex fe x (.par is e))) := by
  unfold parS at h
  split at h
  · rename_i t v sp hx
    obtain rfl := asAsg_eq hx
    split at h
    · rename_i ts vs ht hv
      have g := ht
      obtain ⟨k, p, rfl⟩ := asTup_eq ht
      obtain ⟨k2, p2, rfl⟩ := asTup_eq hv
      simp only [Bool.and_eq_true, Bool.or_eq_true, decide_eq_true_eq] at h
      obtain ⟨⟨⟨⟨h1, h2⟩, h3⟩, hz⟩, h4⟩ := h
      have pa := (snd e (x := x) F.f).a vs h2
      rcases h4 with h4 | ⟨⟨h4, h5⟩, h6⟩
      · exact (ps_asg (pe_tup pa) (F.tg h1) rfl (parTup_eq (by rw [F.f.sc]; exact h4)) rfl).imq fun D σ H q => rs_parT (Nat.le_trans hz (by decide)) q
      · have hsw := parSwap_eq (env := X.env) (ts := ts) (vs := vs) (k := k) (k2 := k2) (p := p) (p2 := p2) (by rw [F.f.sc]; exact h4)
        have nd := nodupB_eq h5
        have h1' : ((ts.length == is.length) && (is.zip ts).all (fun p => match asName p.2 with
          | some x => ownB nc sc p.1 x
          | none => false)) = true := h1
        rw [Bool.and_eq_true] at h1'
        have hlen : ts.length = is.length := by simpa using h1'.1
        have nm := names_of h1'.2 hlen
        rw [F.f.sc] at hsw
        split at h6
        · rename_i i j y z hn
          simp only [Bool.and_eq_true, decide_eq_true_eq] at h6
          obtain ⟨⟨⟨⟨⟨a1, a2⟩, a3⟩, a4⟩, a5⟩, a6⟩ := h6
          rw [hn] at hsw
          match ts, hlen, nm, a5 with
          | [t1, t2], _, nm, a5 =>
            obtain ⟨y1, p1, rfl⟩ := nm 0 t1 rfl
            obtain ⟨y2, p3, rfl⟩ := nm 1 t2 rfl
            have a5 : [y1, y2] = [y, z] := a5
            cases a5
            match vs, a6, pa, hsw with
            | [v1, v2], _, pa, hsw =>
              have hij : i ≠ j := by
                have := (List.nodup_cons.mp nd).1
                simpa using this
              refine (ps_par F.f.calm F.f.nd (by rw [F.f.N]; exact a1) (by rw [F.f.N]; exact a2) hij (by rw [F.f.sc]; exact a3) (by rw [F.f.sc]; exact a4) pa hsw).imq fun D σ H q => ?_
              have q2 := rs_par q
              obtain ⟨L, Hi0, B, Hi, ρ, k, s, hf, ha⟩ := q2
              refine ⟨L, Hi0, B, Hi, ρ, k, s, hf, fun as has ws Hi' H' g' ok' hws => ?_⟩
              obtain ⟨b1, b2⟩ := ha as has ws Hi' H' g' ok' hws
              match ws, b1, b2 with
              | [w1, w2], _, b2 => exact ⟨w1, w2, rfl, b2⟩
        · rename_i i j m y z u hn
          simp only [Bool.and_eq_true, decide_eq_true_eq] at h6
          obtain ⟨⟨⟨⟨⟨⟨⟨a1, a2⟩, a2'⟩, a3⟩, a4⟩, a4'⟩, a5⟩, a6⟩ := h6
          rw [hn] at hsw
          match ts, hlen, nm, a5 with
          | [t1, t2, t3], _, nm, a5 =>
            obtain ⟨y1, p1, rfl⟩ := nm 0 t1 rfl
            obtain ⟨y2, p3, rfl⟩ := nm 1 t2 rfl
            obtain ⟨y3, p4, rfl⟩ := nm 2 t3 rfl
            have a5 : [y1, y2, y3] = [y, z, u] := a5
            cases a5
            match vs, a6, pa, hsw with
            | [v1, v2, v3], _, pa, hsw =>
              have n1 := (List.nodup_cons.mp nd).1
              have n2 := (List.nodup_cons.mp (List.nodup_cons.mp nd).2).1
              simp at n1 n2
              refine (ps_par3 F.f.calm F.f.nd (by rw [F.f.N]; exact a1) (by rw [F.f.N]; exact a2) (by rw [F.f.N]; exact a2') n1.1 n1.2 n2 (by rw [F.f.sc]; exact a3) (by rw [F.f.sc]; exact a4) (by rw [F.f.sc]; exact a4') pa hsw).imq fun D σ H q => ?_
              have q2 := rs_par q
              obtain ⟨L, Hi0, B, Hi, ρ, k, s, hf, ha⟩ := q2
              refine ⟨L, Hi0, B, Hi, ρ, k, s, hf, fun as has ws Hi' H' g' ok' hws => ?_⟩
              obtain ⟨b1, b2⟩ := ha as has ws Hi' H' g' ok' hws
              match ws, b1, b2 with
              | [w1, w2, w3], _, b2 => exact ⟨w1, w2, w3, rfl, b2⟩
        · cases h6
    · cases h
  · cases h
end
end Un
end
section
/-! Un: every statement; a def by its body. -/
namespace Un
open PySem PySem.Spec L2
section
variable {nc : Nc} {fe : FE}
theorem SSnd.ofS {X : Cx} {l : Lay} {x : KX} {f : List SV → KF → Prop} {s : Stmt → Bool} (h : ∀ st, s st = true → PS X st (tS l x f)) : SSnd X l x f { noS with s := s } := ⟨h, fun _ z => nomatch z⟩
theorem SSnd.ofB {X : Cx} {l : Lay} {x : KX} {f : List SV → KF → Prop} {b : List Stmt → Bool} (h : ∀ st, b st = true → PSs X st (tS l x f)) : SSnd X l x f { noS with b := b } := ⟨fun _ z => (nomatch z), h⟩
theorem ss_cons {X : Cx} {l : Lay} {x : KX} {f g : List SV → KF → Prop} {c d : Cs} (h1 : SSnd X l x f c) (h2 : SSnd X l x g d) : SSnd X l x (fun ρ k => f ρ fun fl => match fl with
    | .nx ρ' => g ρ' k
    | o => k o) { noS with b := fun sts => match sts with
    | st :: sts => c.s st && d.b sts
    | [] => false } := SSnd.ofB fun sts h => by
  cases sts with
  | nil => cases h
  | cons st sts =>
    replace h : (c.s st && d.b sts) = true := h
    rw [Bool.and_eq_true] at h
    exact (pss_cons (h1.s st h.1) (h2.b sts h.2)).imq fun D σ H q => rs_cons q
theorem ssnd {sc : Scope} : ∀ (S : Sm) {X : Cx} {l : Lay} {x : KX}, SFit X nc sc l fe → SSnd X l x (ex fe x S) (chkS nc sc S)
  | .set i e, X, l, x, F => SSnd.ofS (ss_set F i e)
  | .unp is e, X, l, x, F => SSnd.ofS (ss_unp F is e)
  | .par is es, X, l, x, F => SSnd.ofS (ss_par F is es)
  | .put i j e, X, l, x, F => SSnd.ofS fun st h => by
    unfold putS at h
    split at h
    · rename_i t v sp hx
      obtain rfl := asAsg_eq hx
      split at h
      · rename_i o ix ho
        obtain ⟨p, rfl⟩ := asSub_eq ho
        split at h
        · rename_i y hy
          obtain ⟨p2, rfl⟩ := asName_eq hy
          simp only [Bool.and_eq_true] at h
          obtain ⟨⟨⟨h1, h2⟩, h3⟩, h4⟩ := h
          unfold varB at h1
          simp only [Bool.and_eq_true, decide_eq_true_eq, Bool.not_eq_true'] at h1
          obtain ⟨⟨⟨a1, a2⟩, a3⟩, a4⟩ := h1
          have ha : ∀ u, assign (.Subscript (.Name y p2) ix p) X.env u = (do
              let ov ← holding [u] (eval (.Name y p2) X.env)
              let iv ← holding [u, ov] (eval ix X.env)
              standAt p
              holding [u, ov, iv] (setItem ov iv u)
              release [u, ov, iv] []) := by
            intro u
            cases ix <;> first | rfl | (simp [notSlc] at h2; done)
          refine (ps_asg ((snd e (x := x) F.f).v v h4) (pg_sub (pe_var (by rw [F.f.N]; exact a1) (F.f.vis a2) a3 a4) ((snd j (x := x) F.f).v ix h3) set_list ha) ?_ ?_ rfl).imq fun D σ H q => rs_put q
          · show swapsWith v (some (.Subscript (.Name y p2) ix p)) sp.line X.env = pure false
            cases v <;> rfl
          · cases v <;> rfl
        · cases h
      · cases h
    · cases h
  | .app i e, X, l, x, F => SSnd.ofS fun st h => by
    unfold appS at h
    split at h
    · rename_i v sp hx
      obtain rfl := asExp_eq hx
      split at h
      · rename_i y u ap cp hy
        obtain ⟨p, rfl⟩ := asApp_eq hy
        simp only [Bool.and_eq_true] at h
        obtain ⟨⟨⟨h1, h2⟩, h3⟩, h4⟩ := h
        unfold varB at h1
        simp only [Bool.and_eq_true, decide_eq_true_eq, Bool.not_eq_true'] at h1
        obtain ⟨⟨⟨a1, a2⟩, a3⟩, a4⟩ := h1
        have hst := star_cons h2 [] X.env
        refine (ps_expr (pe_bm PySem.F.plainAttrs_list PySem.F.slot_list_append PySem.F.type_list_append mt_append (pe_var (by rw [F.f.N]; exact a1) (F.f.vis a2) a3 a4) (ca1 ((snd e (x := x) F.f).v u h3) h2) rfl ?_ h4 hst rfl) rfl).imq fun D σ H q => ?_
        · rw [hst]
          rfl
        · rw [F.f.K]
          exact rs_app q
      · cases h
    · cases h
  | .ret e, X, l, x, F => SSnd.ofS fun st h => by
    split at h
    · rename_i v hx
      obtain ⟨p, rfl⟩ := asRet_eq hx
      exact (ps_ret ((snd e (x := x) F.f).v v h)).imq fun D σ H q => rs_ret q
    · cases h
  | .retN, X, l, x, F => SSnd.ofS fun st h => by
    split at h
    · rename_i hx
      obtain ⟨p, rfl⟩ := asRet_eq hx
      exact ps_retN.imq fun D σ H q => rs_retN q
    · cases h
  | .drop e, X, l, x, F => SSnd.ofS fun st h => by
    split at h
    · rename_i v sp hx
      obtain rfl := asExp_eq hx
      rw [Bool.and_eq_true, Bool.not_eq_true'] at h
      exact (ps_expr ((snd e (x := x) F.f).v v h.1) (swaps_no h.2 _ _ _)).imq fun D σ H q => rs_drop q
    · cases h
  | .ifs c a b, X, l, x, F => SSnd.ofS fun st h => by
    split at h
    · rename_i ec sa sb hx
      obtain ⟨p, rfl⟩ := asIfS_eq hx
      simp only [Bool.and_eq_true] at h
      exact (ps_if ((snd c (x := x) F.f).t ec h.1.1) ((ssnd a (x := x) F).b sa h.1.2) ((ssnd b (x := x) F).b sb h.2)).imq fun D σ H q => rs_if q
    · cases h
  | .loop tg it b, X, l, x, F => SSnd.ofS fun st h => by
    split at h
    · rename_i t i sb hx
      obtain ⟨p, rfl⟩ := asFor_eq hx
      simp only [Bool.and_eq_true] at h
      obtain ⟨⟨h1, h2⟩, h3⟩ := h
      obtain ⟨pi, ns⟩ := (snd it (x := x) F.f).i t i h2
      exact (ps_for F.po F.f.calm pi (F.tg h1) ((ssnd b (x := x) F).b sb h3) (notSet_eq ns X.env)).imq fun D σ H q => rs_for q
    · cases h
  | .whl c b, X, l, x, F => SSnd.ofS fun st h => by
    split at h
    · rename_i ec sb hx
      obtain ⟨p, rfl⟩ := asWhl_eq hx
      simp only [Bool.and_eq_true] at h
      exact (ps_while F.po ((snd c (x := x) F.f).t ec h.1) ((ssnd b (x := x) F).b sb h.2)).imq fun D σ H q => rs_whl q
    · cases h
  | .brk, X, l, x, F => SSnd.ofS fun st h => by
    split at h
    · exact ps_break.imq fun D σ H q => rs_bk q
    · cases h
  | .cnt, X, l, x, F => SSnd.ofS fun st h => by
    split at h
    · exact ps_continue.imq fun D σ H q => rs_ct q
    · cases h
  | .pass, X, l, x, F => SSnd.ofS fun st h => by
    split at h
    · exact ps_pass.imq fun D σ H q => rs_nx q
    · cases h
  | .rse, X, l, x, F => SSnd.ofS fun st h => ⟨fun pins s σ H D I q => by
    obtain ⟨L, Hi0, B, Hi, ρ, k, s', hf, ha⟩ := q
    exact hf.elim⟩
  | .rs c, X, l, x, F => SSnd.ofS fun st h => by
    split at h
    · rename_i z hz
      obtain ⟨p, p1, p2, rfl⟩ := asRse_eq hz
      unfold erB at h
      simp only [Bool.and_eq_true, decide_eq_true_eq, Bool.not_eq_true'] at h
      obtain ⟨⟨⟨⟨⟨h1, h2⟩, h3⟩, h4⟩, h5⟩, h6⟩ := h
      have hin := List.contains_iff_mem.mp h3
      obtain ⟨C, m, S, xr⟩ := F.f.errs.mkr _ hin h4 h5
      refine (ps_raise F.f.calm F.f.tk (pmk_sup (k := 0) S (F.f.room.r.mono h6) (F.f.gl h1) m (F.f.errs.sup (List.ne_nil_of_mem hin)) h2)).imq fun D σ H q => ?_
      obtain ⟨L, Hi0, B, Hi, ρ, k, s', hf, ha⟩ := q
      exact s'.e ρ σ Hi H s'.r c [] (.ref C) none Hi H hf (Grow.refl s'.r.g.sub) s'.r.src (xr _ _)
    · cases h
  | .tryx b c i su, X, l, x, F => SSnd.ofS fun st h => by
    split at h
    · rename_i body z n suite hz
      obtain ⟨p, p1, p2, rfl⟩ := asTry_eq hz
      unfold erB at h
      simp only [Bool.and_eq_true, decide_eq_true_eq, Bool.not_eq_true'] at h
      obtain ⟨⟨⟨⟨h1, ⟨⟨h2, h3⟩, h4⟩⟩, h5⟩, h6⟩, h7⟩ := h
      have hin := List.contains_iff_mem.mp h4
      have hne := List.ne_nil_of_mem hin
      obtain ⟨CC, mC⟩ := F.f.errs.cls _ hin
      have hi : X.N[i]? = some n := by rw [F.f.N]; exact h5
      cases suite with
      | nil => cases su <;> cases h7
      | cons b0 suite =>
      refine (ps_try_as (x := z) (n := n) (c := .ref CC) (i := i) (Wout := l.W)
        (tb := fun W D σ H => ∃ x', tS { l with W := W } x' (ex fe x' b) D σ H)
        (ts := fun a cls d D σ H => ∃ C c', cls = .ref C ∧ d = none ∧ ExcC X.K C ∧ PySem.W.kitOne X.K (.ref C) (.type "ValueError") = some true ∧ (∀ e ∈ nc.errs, ∃ D, X.mg e.1 = some (.ref D) ∧ PySem.W.kitOne X.K (.ref C) (.ref D) = some (hitE c' e.2)) ∧ (∃ σ0 : L2.St, σ = σ0.set i (some (.ref a))) ∧ ∀ H' p, Same H H' → H' p = none → D.rt (.ref p) (upd H' p (.lst [.str (su.ans c')])))
        F.stk F.frm F.f.nd hi (by show X.env.scope.names.lookup n = _; rw [F.f.sc]; exact h6) ⟨F.f.gl h2, h3, .inl mC⟩ F.f.tk (fun W pn xe tk po => ?_) (fun a oe cls d pn hz hf => ?_)).imq fun D σ H q => ?_
      · have F' : SFit (X.tr pn xe) nc sc { l with W := W } fe :=
          { f := { N := F.f.N, nd := F.f.nd, sc := F.f.sc, K := F.f.K, calm := F.f.calm, room := F.f.room, tk := tk, mgn := F.f.mgn, gcd := F.f.gcd
                   pats := fun p hp => by
                     obtain ⟨a, fd, ps, q1, q2, q3, q4, q5⟩ := (F.f.pats p hp).ex
                     exact ⟨a, fd, ps, q1, q2, q3, q4, q5⟩
                   csts := F.f.csts
                   errs := ⟨F.f.errs.sup, F.f.errs.ve, F.f.errs.cls, F.f.errs.mkr, F.f.errs.got⟩ }
            fn := F.fn
            po := po
            stk := F.stk
            frm := F.frm }
        exact ⟨fun pins s σ H D I ⟨x', q⟩ => ((ssnd b (x := x') F').b body h1).run pins s σ H D I q⟩
      · refine ⟨fun pins s σ H D I ⟨C, c', e1, e2, ec, ev, ek, ⟨σ0, es⟩, q⟩ => ?_⟩
        subst e1 e2
        have hlt : i < σ0.length := by
          have e1 := I.len
          rw [es, List.length_set] at e1
          rw [e1]
          exact (List.getElem?_eq_some_iff.mp hi).1
        exact (su_ok (n := 0) (X := X.suite a ((a, oe) :: pn)) (nc := nc) (sc := sc) F.f.nd F.fn ⟨F.f.N, F.f.sc, F.f.mgn _ (by decide), F.f.errs.ve, ev, ek, hne⟩ (call_isE ec hz hf) (call_isET ec hz hf) su _ h7).run pins s σ H D I ⟨by rw [es, List.getElem?_set_self hlt], q⟩
      · obtain ⟨L, Hi0, B, Hi, ρ, k, s', hf, ha⟩ := q
        refine ⟨_, L, Hi0, B, Hi, ρ, k, ⟨s'.k, s'.r, fun ρ' σ' Hi1 H1 r c' fs cls d Hi' H' hx g ok xr => ?_⟩, hf, ha⟩
        obtain ⟨rfl, rfl, C, rfl, ec, ev, ek⟩ := F.f.errs.got _ _ _ _ _ _ xr
        refine ⟨hitE c' c, (ek _ hin CC mC).1, fun hb a na => ?_, fun hb => ?_⟩
        · rw [if_pos hb] at hx
          refine ⟨C, c', rfl, rfl, ec, ev, fun e he => ?_, ⟨σ', rfl⟩, fun H2 p sm hp => ?_⟩
          · obtain ⟨D', mD⟩ := F.f.errs.cls e he
            exact ⟨D', mD, (ek e he D' mD).2⟩
          · have nn : ∀ a, H2 a = none → H' a = none := fun a h => by
              cases q : H' a with
              | none => rfl
              | some o =>
                rw [sm a o q] at h
                cases h
            have sub2 : Same Hi' H2 := g.sub.trans sm
            have g2 : Grow L Hi' H' Hi' H2 := ⟨fun a o h _ => sm a o h, nn, Same.refl _, sub2, fun _ h1 h2 => absurd h2 h1⟩
            have G : Grow L Hi0 B Hi' H2 := (r.g.trans g).trans g2
            have ok2 : L.ok H2 := L.mono H' H2 ok fun a fa => by
              cases q : H' a with
              | none => exact absurd q (L.dom H' a ok fa)
              | some o => exact sm a o q
            have ok3 : L.ok (upd H2 p (.lst [.str (su.ans c')])) := L.mono H2 _ ok2 fun a fa => upd_ne fun z => L.dom H2 a ok2 fa (by rw [z]; exact hp)
            have hin2 : Hi' p = none := by
              cases q : Hi' p with
              | none => rfl
              | some o =>
                rw [sub2 p o q] at hp
                cases hp
            exact ha _ hx.2 (.ref p) Hi' _ (G.trans (Grow.laid' sub2 hp)) ok3 ⟨p, _, rfl, G.dom p hp, hin2, upd_same, .cons (.str _) .nil⟩
        · rw [hb, if_neg Bool.false_ne_true] at hx
          exact s'.e ρ' σ' Hi1 H1 r c' [] _ none Hi' H' hx g ok xr
    · cases h
  | .frz i, X, l, x, F => ⟨fun _ z => (nomatch z), fun _ z => (nomatch z)⟩
  | .nil, X, l, x, F => SSnd.ofB fun sts h => by
    cases sts with
    | nil => exact pss_nil.imq fun D σ H q => rs_nx q
    | cons _ _ => cases h
  | .cons s r, X, l, x, F => by
    have R := ssnd r (x := x) F
    have gen : (∀ i, s ≠ .frz i) → SSnd X l x (ex fe x (.cons s r)) (chkS nc sc (.cons s r)) := fun hs => by
      have S := ssnd s (x := x) F
      have e : chkS nc sc (.cons s r) = { noS with b := fun sts => match sts with
        | st :: sts => (chkS nc sc s).s st && (chkS nc sc r).b sts
        | [] => false } := by
        cases s <;> first | rfl | exact absurd rfl (hs _)
      rw [e]
      exact ss_cons S R
    by_cases hs : ∃ i, s = .frz i
    · obtain ⟨i, rfl⟩ := hs
      refine SSnd.ofB fun sts h => (R.b sts h).imq fun D σ H q => rs_frz (i := i) ?_
      obtain ⟨L, Hi0, B, Hi, ρ, k, s, ⟨xs, e, hk⟩, ha⟩ := q
      exact ⟨L, Hi0, B, Hi, ρ, k, s, ⟨xs, e, hk⟩, ha⟩
    · exact gen fun i z => hs ⟨i, z⟩
end
end Un
end
section
/-! Un: a def keeps its promise; the law's end for such defs. -/
namespace Un
open PySem PySem.Spec PyProof.Rows L2

theorem args_slots {K : PySem.W.Frag} {L : Loc} {B Hi H : Hp} : ∀ {vs : List V} {args : List SV}, Two (ArgOk K L Hi) vs args → ∀ (i : Nat) r, args[i]? = some r → ∃ v, vs[i]? = some v ∧ SvOk K L B Hi H (some v) r ∧ isOwn r = false
  | _, _, .nil, i, r, e => by simp at e
  | _, _, .cons (a := v) (b := q) h t, 0, r, e => by
    simp at e
    subst e
    refine ⟨v, rfl, ?_⟩
    cases q with
    | d x => exact ⟨⟨v, rfl, h⟩, rfl⟩
    | src => exact ⟨congrArg some h, rfl⟩
    | un => exact h.elim
    | scr => exact h.elim
    | own _ => exact h.elim
  | _, _, .cons h t, i + 1, r, e => by
    obtain ⟨v, h1, h2⟩ := args_slots (B := B) (H := H) t i r (by simpa using e)
    exact ⟨v, by simpa using h1, h2⟩
theorem rel_start {K : PySem.W.Frag} {L : Loc} {Hi H : Hp} {N : List Str} {vs : List V} {args : List SV} {p : Nat} (ok : L.ok H) (sm : Same Hi H) (hf : ∀ a, L.foot a → Hi a = none) (hp : args.length = p) (t : Two (ArgOk K L Hi) vs args) :
    Rel K L Hi H Hi (L2.start N vs) H (args ++ List.replicate (N.length - p) .un) where
  g := Grow.refl sm
  src := ok
  srcB := ok
  av0 := hf
  len := by
    unfold L2.start
    rw [List.length_append, List.length_append, List.length_replicate, List.length_replicate, List.length_map, t.len, hp]
  slot := fun i r e => by
    unfold L2.start
    by_cases hi : i < args.length
    · rw [List.getElem?_append_left hi] at e
      obtain ⟨v, h1, h2, _⟩ := args_slots (B := H) (H := H) t i r e
      refine ⟨some v, ?_, h2⟩
      rw [List.getElem?_append_left (by rw [List.length_map, t.len]; exact hi), List.getElem?_map, h1] <;> rfl
    · rw [List.getElem?_append_right (by omega), List.getElem?_replicate] at e
      split at e
      · rename_i hlt
        cases e
        refine ⟨none, ?_, trivial⟩
        rw [List.getElem?_append_right (by rw [List.length_map, t.len]; omega), List.length_map, t.len, List.getElem?_replicate, if_pos (by rw [hp] at hlt ⊢; exact hlt)]
      · cases e
  apart := fun i j r q a hij e1 e2 o1 o2 s1 s2 => by
    have no : ∀ (i : Nat) r, (args ++ List.replicate (N.length - p) SV.un)[i]? = some r → isOwn r = true → False := fun i r e o => by
      by_cases hi : i < args.length
      · rw [List.getElem?_append_left hi] at e
        obtain ⟨v, h1, h2, h3⟩ := args_slots (B := H) (H := H) t i r e
        rw [h3] at o
        cases o
      · rw [List.getElem?_append_right (by omega), List.getElem?_replicate] at e
        split at e
        · cases e
          cases o
        · cases e
    exact no i r e1 o1
/-- the names that a def's text uses, in one place -/
structure Glob (P : Program) (w : World) (mg : Str → Option Value) (base : Heap) (l : Lay) (nc : Nc) (fe : FE) : Prop where
  mgn : ∀ x ∈ bltNames, mg x = none
  gcd : nc.gcd = true → mg "gcd" = some (.builtin "math.gcd")
  pats : ∀ p ∈ nc.pats, CallOk P w mg base l nc.k (fe p.f) p
  csts : ∀ c ∈ nc.csts, ∃ u v, mg c.1 = some u ∧ RelV v u ∧ ∀ H, Dq l.K H v c.2
  errs : Errs P l.K mg l nc.errs
/-- A DEF KEEPS ITS PROMISE -/
theorem fn_run {P : Program} {w : World} {mg : Str → Option Value} {base : Heap} {l : Lay} {f : Addr} {x qual : Str} {params : Arguments} {body : List Stmt} {scope : Scope} {dvs : List V} {kws : List (Str × V)} {fd : FuncData} {ps : List Str} {nc : Nc} {fe : FE} {S : Sm}
    (F : FunD l.K x qual params body scope dvs kws f fd) (Sc : FnScope nc.N ps scope) (G : Glob P w mg base l nc fe) (hc : (chkS nc scope S).b body = true) : FnG P w l.K mg base (nc.k + 1) f fd ps (spF l (runF fe ps.length nc.N.length S) ps.length) := by
  refine fn_ofG F Sc (fun vs H Q E h => ?_) fun cdv A outer s H vs Q E hr h => ?_
  · obtain ⟨L, Hi, args, k, x, h1, h2, h3, h4, h5, h6, h7⟩ := h
    rw [h6.len, h5]
  · obtain ⟨L, Hi, args, k, x, h1, h2, h3, h4, h5, h6, ⟨h7, h8⟩, h9, h10⟩ := h
    let lE : Lay := { l with W := fun cls d _ H' => E cls d H' }
    have fit : SFit (cxOf (L2.CX P w) P w l.K mg base nc.N qual scope f cdv A outer s H E) nc scope lE fe :=
      { f := { N := rfl, nd := Sc.nd, sc := rfl, K := rfl, calm := rfl, room := hr, tk := takes_of rfl rfl rfl rfl, mgn := G.mgn, gcd := G.gcd, pats := fun p hp => by
                 obtain ⟨a, fd, ps, q1, q2, q3, q4, q5⟩ := (G.pats p hp).ex
                 exact ⟨a, fd, ps, q1, q2, q3, q4, q5⟩
               csts := G.csts
               errs := ⟨G.errs.sup, G.errs.ve, G.errs.cls, G.errs.mkr, G.errs.got⟩ }
        fn := fun _ => rfl
        po := passes_of rfl
        stk := rfl
        frm := rfl }
    have rel := rel_start (N := nc.N) h2 h3 h4 h5 h6
    refine ⟨tS lE x (ex fe x S), (ssnd S (x := x) fit).b body hc, L, Hi, H, Hi, args ++ List.replicate (nc.N.length - ps.length) .un, _, ⟨h1, rel, fun ρ' σ' Hi1 H1 r c fs cls d Hi' H' q1 q2 q3 q4 => h10 c fs cls d Hi' H' q1 (r.g.trans q2) q3 q4⟩, h8, fun fl hk => ?_⟩
    cases fl with
    | nx ρ' => exact fun σ' Hi' H' r a => h9 _ hk .non Hi' H' r.g r.src .non
    | bk ρ' => exact hk.elim
    | ct ρ' => exact hk.elim
    | rt a =>
      refine fun v Hi' H' g ok hv => ?_
      cases a with
      | d y => exact h9 _ hk v Hi' H' g ok hv
      | new xs => exact h9 _ hk v Hi' H' g ok hv
      | bor xs => exact h9 _ hk v Hi' H' g ok hv
      | src => exact hk.elim

/-- the law's call, for a def whose promise asks that no repr runs around -/
theorem law_callU {P : Program} {w : World} {K : PySem.W.Frag} {mg mb : Str → Option Value} {k : Nat} {fa a : Addr} {fd : FuncData} {x : Str} {sp : Sp} {st : Shared} {us : List Value} {ns : List Int}
    (KX : K.In st.heap) (hm : st.heap.Ns mainGlobals mg) (hb : st.heap.Ns builtinsNs mb) (hbb : ∀ y : Str, y ≠ "__name__" → mb y = bootBuiltins y) (hnl : st.heap.NoLimit) (hg : st.gens = #[])
    (ha : st.heap.get? a = some { cls := .type "list", data := .seq us.toArray }) (hi : IntsAre us ns) (hl : ns.length ≤ sizeLine) (hr : RoomG k callerA)
    (F : ∀ base : Heap, K.In base → base.Ns mainGlobals mg → FnG P w K mg base k fa fd [x] sp) (hbind : ∀ (s : Shared) (u : Value), BindsTo s fd ⟨[u], []⟩ [(x, u)])
    (hsp : ∀ H : Hp, Only H → SqL K H a (ns.map V.int) → sp [.ref a] H (fun v _ => v = .bl true) fun _ _ _ => False) :
    codeAny (model P w) callerA (.call (.ref fa) ⟨[.ref a], []⟩) (fun r s2 => r = .ok (.ret (.bool true)) ∧ OldK st.heap s2.heap ∧ s2.os = st.os ∧ AllBare s2.gens) st := by
  have rv := vals_ints hi
  have hlen := hi.length
  have main : ∀ H : Hp, Only H → SqL K H a (ns.map V.int) → HOk P w H st.heap → (∀ b, H b ≠ none → b = a) → (H a ≠ none → K.lookup a = none) →
      codeAny (model P w) callerA (.call (.ref fa) ⟨[.ref a], []⟩) (fun r s2 => r = .ok (.ret (.bool true)) ∧ OldK st.heap s2.heap ∧ s2.os = st.os ∧ AllBare s2.gens) st := by
    intro H hO hS hok hA hK
    have keep : ∀ {b : Addr} {o : Obj}, st.heap.get? b = some o → H b = none → (hidT st.heap H).get? b = some o := fun e n => hidT_get e n
    have notA : ∀ {b : Addr} {o : Obj} {es : Array DictEntry} {ep : Nat}, st.heap.get? b = some o → o.data = .dict es ep → H b = none := fun {b o es ep} e d => by
      cases q : H b with
      | none => rfl
      | some u =>
        obtain rfl : b = a := hA b (by rw [q]; simp)
        rw [ha] at e
        cases e
        cases (show Data.seq us.toArray _ = Data.dict es ep from d)
    have ns : ∀ {b : Addr} {m : Str → Option Value}, st.heap.Ns b m → (hidT st.heap H).Ns b m := fun {b m} ⟨o, es, ep, e, d, r⟩ => ⟨o, es, ep, keep e (notA e d), d, r⟩
    have hKb : K.In (hidT st.heap H) := fun b o e => keep (KX b o e) (by
      cases q : H b with
      | none => rfl
      | some u =>
        obtain rfl : b = a := hA b (by rw [q]; simp)
        rw [hK (by rw [q]; simp)] at e
        cases e)
    have hM : Mod K mg (hidT st.heap H) := by
      obtain ⟨mc, h1, h2⟩ := hnl
      exact ⟨hKb, ns hm, ⟨mb, ns hb, hbb⟩, mc, ns h1, h2⟩
    have env : Env0 P w K mg (hidT st.heap H) callerA [] st H := ⟨rfl, hM, fun b o e => of_hidT e, Nat.le_of_eq (hidT_size _ _), trivial, fun b z => absurd (show b ∈ ([] : List Addr) from z) (by simp), hok, .of_eq hg⟩
    refine codeAny_mono ((F _ hKb (ns hm)).run callerA [] st H ⟨[.ref a], []⟩ [.ref a] [.ref a] _ _ hr env (hbind st (.ref a)) (.cons rfl .nil) (hsp H hO hS)) fun r s2 h => ?_
    cases r with
    | error e =>
      obtain ⟨_, _, _, _, _, _, _, _, _, _, _, _, hE⟩ := h
      exact hE.elim
    | ok fl =>
      cases fl with
      | ret u =>
        obtain ⟨v, H2, os, bare, un, hok2, r2, q⟩ := h
        have q : v = .bl true := q
        subst q
        obtain rfl : u = Value.bool true := r2
        refine ⟨rfl, OldK.of_keep fun b o e => ?_, os, bare⟩
        cases q : H b with
        | none => exact un.keep b o e q (fun z => absurd (show b ∈ ([] : List Addr) from z) (by simp)) (by simp)
        | some u =>
          rcases hO b with z | ⟨ob, xs, z⟩
          · rw [q] at z
            cases z
          · obtain ⟨e1, _⟩ := hok b _ z
            obtain ⟨e2, _⟩ := hok2 b _ (un.frzs b ob _ z)
            rw [e] at e1
            cases e1
            exact e2
      | next => exact False.elim h
      | brk => exact False.elim h
      | cont => exact False.elim h
  cases hk : K.lookup a with
  | some o =>
    have e := KX a o hk
    rw [ha] at e
    cases e
    exact main (fun _ => none) (fun _ => .inl rfl) (.inr ⟨_, us.toArray, _, hk, rfl, rfl, rfl, by rw [List.size_toArray, hlen]; exact hl, by simpa using rv⟩) (fun b u z => (nomatch (show (none : Option HO) = some u from z))) (fun b z => absurd rfl z) fun z => absurd rfl z
  | none =>
    refine main (fun b => if b = a then some (.frz { cls := .type "list", data := .seq us.toArray } (.lst (ns.map V.int))) else none) (fun b => ?_) (.inl (.inr ⟨{ cls := .type "list", data := .seq us.toArray }, if_pos rfl⟩)) (fun b u z => ?_) (fun b z => ?_) fun _ => hk
    · by_cases eb : b = a
      · exact .inr ⟨_, _, if_pos eb⟩
      · exact .inl (if_neg eb)
    · by_cases eb : b = a
      · have z2 := (if_pos eb).symm.trans z
        cases z2
        subst eb
        exact ⟨ha, by rw [List.length_map]; exact hl, us, _, rv, ha⟩
      · cases (if_neg eb).symm.trans z
    · by_cases eb : b = a
      · exact eb
      · exact absurd (if_neg eb) z
theorem walk_ofU {l : PySem.W.OpenLaw} {n k : Nat} {q : Program} {loose : List Str} {XP : (Str → Option Value) → Heap → Prop} {YP : World → Heap → Prop} {d : DefRec} {x : Str}
    (hn : l.most = some n) (hn2 : n ≤ sizeLine) (hdf : d.params.defaults = []) (hr : RoomG k callerA)
    (F : ∀ (w : World) (mg : Str → Option Value) (fa : Addr) (h : Heap), YP w h → h.Ns mainGlobals mg → mg d.name = some (.ref fa) →
      ∃ (K : PySem.W.Frag) (fd : FuncData) (sp : Sp), K.In h ∧ (∀ (s : Shared) (u : Value), BindsTo s fd ⟨[u], []⟩ [(x, u)]) ∧
        (∀ (H : Hp) (a : Addr) (ns : List Int), ns.length ≤ n → Only H → SqL K H a (ns.map V.int) → sp [.ref a] H (fun v _ => v = .bl true) fun _ _ _ => False) ∧
        ∀ base : Heap, K.In base → base.Ns mainGlobals mg → FnG l.prog w K mg base k fa fd [x] sp) :
    PySem.W.WalkO q loose XP YP l.row.toRowW d [] (fun f vs => PySem.call f vs) := by
  refine Att.attach_call hn hdf fun w _ s₁ mg mb fa _ _ _ _ a vs ns G Y _ _ _ hmg hobj hints hlen hg => ?_
  obtain ⟨K, fd, sp, KX, hb, hsp, hF⟩ := F w mg fa _ Y G.T.g hmg
  exact law_callU KX G.T.g G.T.b G.T.builtins G.T.nolimit hg hobj hints (Nat.le_trans hlen hn2) hr hF hb fun H hO hS => hsp H a ns hlen hO hS
end Un
end
section
/-! Un: defs that call themselves: the checker does not look at the level; nothing is promised of no turns at all. -/
namespace Un
open PySem PySem.Spec L2
theorem chk_k (nc : Nc) (k : Nat) (e : E) : chk { nc with k := k } e = chk nc e := by
  induction e with
  | dat d => rfl
  | scr i => rfl
  | var i => rfl
  | bin o a b ha hb => rw [chk, chk, ha, hb]
  | un o a ha => rw [chk, chk, ha]; rfl
  | fn2 o a b ha hb => rw [chk, chk, ha, hb]; rfl
  | max3 a b c ha hb hc => rw [chk, chk, ha, hb, hc]; rfl
  | band a b ha hb => rw [chk, chk, ha, hb]
  | bor a b ha hb => rw [chk, chk, ha, hb]
  | bnot a ha => rw [chk, chk, ha]
  | ife c a b hc ha hb => rw [chk, chk, ha, hb, hc]
  | tup es h => rw [chk, chk, h]
  | lst es h => rw [chk, chk, h]
  | slc a b c ha hb hc => rw [chk, chk, ha, hb, hc]
  | zl es h => rw [chk, chk, h]
  | rev a h => rw [chk, chk, h]
  | call f p a b ha hb => rw [chk, chk, ha, hb]; rfl
  | cmp own a tg b c ha hb hc => rw [chk, chk, ha, hb, hc]; rfl
  | rng1 a h => rw [chk, chk, h]
  | rng2 a b ha hb => rw [chk, chk, ha, hb]
  | rng3 a b c ha hb hc => rw [chk, chk, ha, hb, hc]
  | enu a h => rw [chk, chk, h]; rfl
  | zip2 a b ha hb => rw [chk, chk, ha, hb]
  | rvd a h => rw [chk, chk, h]; rfl
  | no => rfl
  | nil => rfl
  | cons a r ha hr => rw [chk, chk, ha, hr]
/-- no try within -/
def noTry : Sm → Bool
  | .tryx _ _ _ _ => false
  | .ifs _ a b => noTry a && noTry b
  | .loop _ _ b => noTry b
  | .whl _ b => noTry b
  | .cons s r => noTry s && noTry r
  | _ => true
theorem chkS_cons (nc : Nc) (sc : Scope) (s r : Sm) (h : ∀ i, s ≠ .frz i) : chkS nc sc (.cons s r) = { noS with b := fun sts => match sts with
    | st :: sts => (chkS nc sc s).s st && (chkS nc sc r).b sts
    | [] => false } := by
  cases s <;> first | rfl | exact absurd rfl (h _)
theorem chkS_k (nc : Nc) (sc : Scope) {k : Nat} (hk : decide (0 < k) = decide (0 < nc.k)) (s : Sm) (ht : noTry s = true) : chkS { nc with k := k } sc s = chkS nc sc s := by
  induction s with
  | set i e =>
    have hl : lcOf { nc with k := k } sc e = lcOf nc sc e := by
      cases e with
      | cmp own elt tg it c =>
        show lcB { nc with k := k } own tg (isNo c) (chk { nc with k := k } elt).v (chk { nc with k := k } it).i (chk { nc with k := k } c).t sc = _
        rw [chk_k nc k elt, chk_k nc k it, chk_k nc k c]
        rfl
      | _ => rfl
    rw [chkS, chkS, chk_k nc k e, hl]
    rfl
  | unp is e => rw [chkS, chkS, chk_k]; rfl
  | par is es => rw [chkS, chkS, chk_k]; rfl
  | put i j e => rw [chkS, chkS, chk_k nc k j, chk_k nc k e]; rfl
  | app i e => rw [chkS, chkS, chk_k]; rfl
  | ret e => rw [chkS, chkS, chk_k]
  | retN => rfl
  | drop e => rw [chkS, chkS, chk_k]
  | ifs c a b ha hb => 
    have h2 : noTry a = true ∧ noTry b = true := by simpa [noTry] using ht
    rw [chkS, chkS, chk_k, ha h2.1, hb h2.2]
  | loop tg it b hb => rw [chkS, chkS, chk_k, hb ht]; rfl
  | whl c b hb => rw [chkS, chkS, chk_k, hb ht]
  | brk => rfl
  | cnt => rfl
  | pass => rfl
  | frz i => rfl
  | rse => rfl
  | rs c =>
    rw [chkS, chkS]
    show ({ noS with s := fun st => match asRse st with
      | some z => erB nc sc z c && decide (0 < c) && decide (c < 500) && decide (0 < k)
      | none => false } : Cs) = _
    rw [hk]
    try rfl
  | tryx b c i su hb => cases ht
  | nil => rfl
  | cons s r hs hr =>
    have h2 : noTry s = true ∧ noTry r = true := by simpa [noTry] using ht
    by_cases hf : ∃ i, s = .frz i
    · obtain ⟨i, rfl⟩ := hf
      rw [chkS, chkS, hr h2.2]
    · have hf' : ∀ i, s ≠ .frz i := fun i e => hf ⟨i, e⟩
      rw [chkS_cons _ _ _ _ hf', chkS_cons _ _ _ _ hf', hs h2.1, hr h2.2]
theorem fn_none {P : Program} {w : World} {mg : Str → Option Value} {base : Heap} {l : Lay} {f : Addr} {x qual : Str} {params : Arguments} {body : List Stmt} {scope : Scope} {dvs : List V} {kws : List (Str × V)} {fd : FuncData} {N ps : List Str} {k n : Nat}
    (F : FunD l.K x qual params body scope dvs kws f fd) (Sc : FnScope N ps scope) : FnG P w l.K mg base (k + 1) f fd ps (spF l (fun _ _ _ => False) n) := by
  refine fn_ofG F Sc (fun vs H Q E h => ?_) fun cdv A outer s H vs Q E hr h => ?_
  · obtain ⟨L, Hi, args, k, x, h1, h2, h3, h4, h5, h6, h7, _⟩ := h
    exact h7.elim
  · obtain ⟨L, Hi, args, k, x, h1, h2, h3, h4, h5, h6, h7, _⟩ := h
    exact h7.elim
end Un
end
section
/-! Un: the law's source of numbers (a dict with two lists), as a place; what drawing promises. -/
namespace Un
open PySem PySem.Spec L2
def srcKv (p q : Addr) (fold turn : Int) : List (Key × V) := [(.inr "deep", .ref p), (.inr "small", .ref q), (.inr "fold", .int fold), (.inr "turn", .int turn)]
def srcL (d p q : Addr) : Loc where
  p := d
  foot := fun a => a = d ∨ a = p ∨ a = q
  ok := fun H => ∃ (deep small : List Int) (fold turn : Int), H d = some (.dK (srcKv p q fold turn)) ∧ H p = some (.lst (deep.map V.int)) ∧ H q = some (.lst (small.map V.int)) ∧ small ≠ []
  mono := fun H H' ⟨deep, small, fold, turn, h1, h2, h3, h4⟩ e => ⟨deep, small, fold, turn, (e d (.inl rfl)).trans h1, (e p (.inr (.inl rfl))).trans h2, (e q (.inr (.inr rfl))).trans h3, h4⟩
  dom := fun H a ⟨deep, small, fold, turn, h1, h2, h3, h4⟩ f => by
    rcases f with rfl | rfl | rfl
    · rw [h1]; simp
    · rw [h2]; simp
    · rw [h3]; simp
def srcK (L : Loc) : Prop := ∃ d p q, p ≠ q ∧ d ≠ p ∧ d ≠ q ∧ L = srcL d p q
theorem divP {n : Int} (h : 0 < n) (hl : n.natAbs.log2 < 9000) (i : Int) : CDivP i n := ⟨h, PyProof.noPylong_of_log2 hl⟩
section
variable {H : Hp} {d p q : Addr} {fold turn : Int}
theorem get_deep (h : H d = some (.dK (srcKv p q fold turn))) : DGet H d (.str "deep") (some (.ref p)) := by
  have := DGet.k (k := .inr "deep") h
  exact this
theorem get_small (h : H d = some (.dK (srcKv p q fold turn))) : DGet H d (.str "small") (some (.ref q)) := by
  have := DGet.k (k := .inr "small") h
  exact this
theorem get_fold (h : H d = some (.dK (srcKv p q fold turn))) : DGet H d (.str "fold") (some (.int fold)) := by
  have := DGet.k (k := .inr "fold") h
  exact this
theorem get_turn (h : H d = some (.dK (srcKv p q fold turn))) : DGet H d (.str "turn") (some (.int turn)) := by
  have := DGet.k (k := .inr "turn") h
  exact this
theorem put_turn (h : H d = some (.dK (srcKv p q fold turn))) (t : Int) : DPut H d (.str "turn") (.int t) (upd H d (.dK (srcKv p q fold t))) := by
  have := DPut.k (k := .inr "turn") (v := .int t) h (by show 4 < sizeLine; decide)
  exact this
theorem deep_empty {K : PySem.W.Frag} (h : H p = some (.lst (List.map V.int deep))) : Dp K H (.ref p) (.list (deep.map PyData.int)) := by
  refine .lst (SqL.of h) ?_
  induction deep with
  | nil => exact .nil
  | cons i r ih =>
    have all : ∀ l : List Int, DpAll K H (l.map V.int) (l.map PyData.int) := fun l => by
      induction l with
      | nil => exact .nil
      | cons i r ih => exact .cons (.int i) ih
    exact all (i :: r)
end
theorem lay_ints : ∀ xs : List Int, PyData.canLayAll0 (xs.map PyData.int) = true ∧ PyData.depthAll (xs.map PyData.int) = 0
  | [] => ⟨rfl, rfl⟩
  | i :: r => by
    obtain ⟨h1, h2⟩ := lay_ints r
    constructor
    · simp [PyData.canLayAll0, PyData.canLay0, h1]
    · simp [PyData.depthAll, PyData.depth, h2]
theorem shape_ints (xs : List Int) : SeqAt.shaped (.list (xs.map PyData.int)) = true := by
  obtain ⟨h1, h2⟩ := lay_ints xs
  simp [SeqAt.shaped, PyData.canLay0, PyData.depth, h1, h2]
theorem ix_zero (n : Nat) : ixN (n + 1) 0 = some 0 := by
  unfold ixN
  rw [if_pos (by omega), if_pos (by omega)]
  rfl
theorem at_zero {α : Type} (x : α) (xs : List α) : atI (x :: xs) 0 = some x := by
  unfold atI
  rw [List.length_cons, ix_zero]
  rfl
theorem ite_both {c : Prop} [Decidable c] {A B : Prop} (h1 : c → A) (h2 : ¬c → B) : if c then A else B := by
  by_cases h : c
  · rw [if_pos h]
    exact h1 h
  · rw [if_neg h]
    exact h2 h
theorem snoc_int (xs : List Int) (i : Int) : some (HO.lst (xs.map V.int ++ [V.int i])) = some (HO.lst ((xs ++ [i]).map V.int)) := by
  rw [List.map_append] <;> rfl
/-- drawing changes the source alone -/
theorem src_grow {d p q : Addr} {Hi H H' : Hp} (sm : Same Hi H) (hf : ∀ a, (srcL d p q).foot a → Hi a = none) (k : ∀ a o, H a = some o → ¬ (srcL d p q).foot a → H' a = some o) (dom : ∀ a, H' a = none → H a = none) : Grow (srcL d p q) Hi H Hi H' where
  keep := k
  dom := dom
  mono := Same.refl _
  sub := fun a o e => k a o (sm a o e) fun f => by
    rw [hf a f] at e
    cases e
  fr := fun a h1 h2 => absurd h2 h1
end Un
end
section
/-! Un: the head with facts of one's own. -/
namespace Un
open PySem PySem.Spec PyProof.Rows L2
/-- the written part: what the globals reach, and what the run keeps aside -/
def frU (g : Addr → Option Obj) (n : Nat) : PySem.W.Frag := He.frG g (He.asD g n ++ [cStatics])
def obsU (n : Nat) (fa : List He.Fa) (fn : List He.DefD) (ex : PySem.W.Frag → Bool) (g : Addr → Option Obj) : He.AlD := ((He.obsD fa fn (frU g n)).1 && ex (frU g n), (He.obsD fa fn (frU g n)).2)
def hookU (n : Nat) (fa : List He.Fa) (fn : List He.DefD) (ex : PySem.W.Frag → Bool) : PySem.W.Hook where
  α := He.AlD
  obs := fun s => obsU n fa fn ex s.heap.get?
  val := fun _ => He.valD fn
  says := fun _ h => ∃ K : PySem.W.Frag, K.In h ∧ He.SaysD fa fn K ∧ ex K = true
  of := fun _ s e => by
    have e0 : obsU n fa fn ex s.heap.get? = He.valD fn := e
    unfold obsU He.valD at e0
    rw [Prod.mk.injEq] at e0
    obtain ⟨e1, e2⟩ := e0
    rw [Bool.and_eq_true] at e1
    refine ⟨_, He.frG_in, ?_, e1.2⟩
    exact Prod.ext e1.1 e2
  keeps := fun _ _ _ ⟨K, hK, c⟩ k => ⟨K, PySem.W.Frag.In.keeps hK k, c⟩
theorem obsU_eq {n : Nat} {fa : List He.Fa} {fn : List He.DefD} {ex : PySem.W.Frag → Bool} {g : Addr → Option Obj} {s : Shared} (h : ∀ a, g a = s.heap.get? a) : obsU n fa fn ex g = (hookU n fa fn ex).obs s := by
  obtain rfl : g = s.heap.get? := funext h
  rfl
/-- a module's tuple of ints -/
theorem cst_ints {K : PySem.W.Frag} {h : Heap} {mg : Str → Option Value} {x : Str} (ns : List Int) (X : K.In h) (G : h.Ns mainGlobals mg) (hg : (He.Fa.glo x).ok K = true) (ht : He.tupB K x (ns.map He.Dv.int) = true) :
    ∃ u v, mg x = some u ∧ RelV v u ∧ ∀ H, Dq K H v (.tuple (ns.map PyData.int)) := by
  refine ⟨_, .ref (He.ga K x), He.glo_ok X G hg, rfl, fun H => .tup (He.tupB_ok ht H) ?_⟩
  clear ht
  induction ns with
  | nil => exact .nil
  | cons i r ih => exact .cons (.int i) ih
/-- a module's tuple of texts -/
theorem cst_strs {K : PySem.W.Frag} {h : Heap} {mg : Str → Option Value} {x : Str} (ns : List Str) (X : K.In h) (G : h.Ns mainGlobals mg) (hg : (He.Fa.glo x).ok K = true) (ht : He.tupB K x (ns.map He.Dv.str) = true) :
    ∃ u v, mg x = some u ∧ RelV v u ∧ ∀ H, Dq K H v (.tuple (ns.map PyData.str)) := by
  refine ⟨_, .ref (He.ga K x), He.glo_ok X G hg, rfl, fun H => .tup (He.tupB_ok ht H) ?_⟩
  clear ht
  induction ns with
  | nil => exact .nil
  | cons i r ih => exact .cons (.str i) ih
/-- how a def without defaults binds -/
theorem kb_of {K : PySem.W.Frag} {x qual : Str} {params : Arguments} {body : List Stmt} {scope : Scope} {f : Addr} {fd : FuncData} {n : Nat} {ps ks : List Str} {pm : List Nat} (F : FunD K x qual params body scope [] [] f fd)
    (h : ∀ (kV doc pmv : Value) (an : Option Addr) (cdv ct : Value) (us ws : List Value), us.length = n → ws.length = ks.length → bindArgs (PySem.W.fnOf x qual params body scope .none kV doc pmv an cdv ct) ⟨us, ks.zip ws⟩ = pure (ps.zip (gP pm us ws))) :
    KBg K fd n ps ks (gP pm) (gP pm) where
  to := fun s us ws _ h1 h2 => by
    obtain ⟨oc, od, dV, kV, doc, pmv, an, cdv, ct, osl, rfl, lk, hcd, hD, hK⟩ := F.ex
    rcases hD with ⟨_, rfl⟩ | ⟨e, _⟩
    · exact .of_eq (h kV doc pmv an cdv ct us ws h1 h2)
    · exact absurd rfl e
  rel := fun r q => gP_rel pm r q
theorem call_of {P : Program} {w : World} {K : PySem.W.Frag} {mg : Str → Option Value} {base : Heap} {l : Lay} {j k : Nat} {Fn : List SV → KA → KX → Prop} {x qual : Str} {params : Arguments} {body : List Stmt} {scope : Scope} {f : Addr} {fd : FuncData} {ps : List Str} (p : Pat)
    (hK : l.K = K) (F : FunD K x qual params body scope [] [] f fd) (hm : mg p.x = some (.ref f)) (hl : ps.length = p.perm.length) (hF : FnG P w K mg base j f fd ps (spF l Fn ps.length)) (hj : j ≤ k)
    (h : ∀ (kV doc pmv : Value) (an : Option Addr) (cdv ct : Value) (us ws : List Value), us.length = p.n → ws.length = p.ks.length → bindArgs (PySem.W.fnOf x qual params body scope .none kV doc pmv an cdv ct) ⟨us, p.ks.zip ws⟩ = pure (ps.zip (gP p.perm us ws))) :
    CallOk P w mg base l k Fn p := by
  subst hK
  exact ⟨f, fd, ps, hm, F.kp, hl, kb_of F h, hF.mono hj⟩

/-! ### errors -/
/-- how an error of the list lies -/
def errLay (es : List (Str × Nat)) (K : PySem.W.Frag) : Nat → List PyData → Value → Option Addr → Hp → Hp → Prop := fun c fs cls d _ _ => fs = [] ∧ d = none ∧ ∃ e ∈ es, e.2 = c ∧ 0 < c ∧ c < 500 ∧ cls = .ref (He.ga K e.1)
def excCB (K : PySem.W.Frag) (D : Addr) : Bool := He.eqO (PySem.W.findIn K (.ref D) "__getattribute__") (some (some (.builtin "BaseException.__getattribute__"))) && (He.eqO (PySem.W.findIn K (.ref D) "__getattr__") (some none) &&
  (decide (PySem.W.subIn K (.ref D) (.type "BaseException") = some true) && (PySem.W.hasDictIn K D && (He.eqO (PySem.W.findIn K (.ref D) "__class__") (some (some (.builtin "object.__class__"))) &&
  (He.eqO (PySem.W.specialIn K (.builtin "object.__class__") "__get__") (some (some (.builtin "getset_descriptor.__get__"))) && (decide (PySem.W.takesIn K (.builtin "object.__class__") = some true) && decide (PySem.W.mroIn K D (.type "object") = some true)))))))
theorem excC_of {K : PySem.W.Frag} {D : Addr} (h : excCB K D = true) : ExcC K D := by
  unfold excCB at h
  obtain ⟨h1, h⟩ := He.ba h
  obtain ⟨h2, h⟩ := He.ba h
  obtain ⟨h3, h⟩ := He.ba h
  obtain ⟨h4, h⟩ := He.ba h
  obtain ⟨h5, h⟩ := He.ba h
  obtain ⟨h6, h⟩ := He.ba h
  obtain ⟨h7, h8⟩ := He.ba h
  exact ⟨He.eqO_ok h1, He.eqO_ok h2, of_decide_eq_true h3, h4, He.eqO_ok h5, He.eqO_ok h6, of_decide_eq_true h7, of_decide_eq_true h8⟩
def errOne (P : Program) (es : List (Str × Nat)) (K : PySem.W.Frag) (e : Str × Nat) : Bool := (He.Fa.glo e.1).ok K && ((e.2 == 0 || decide (500 ≤ e.2)) || (supOk P K (He.ga K e.1) && (excCB K (He.ga K e.1) && (decide (PySem.W.kitOne K (.ref (He.ga K e.1)) (.type "ValueError") = some true) &&
  es.all fun e' => decide (PySem.W.exmOne K (.ref (He.ga K e.1)) (.ref (He.ga K e'.1)) = some (hitE e.2 e'.2)) && decide (PySem.W.kitOne K (.ref (He.ga K e.1)) (.ref (He.ga K e'.1)) = some (hitE e.2 e'.2))))))
def errOk (P : Program) (es : List (Str × Nat)) (K : PySem.W.Frag) : Bool := (He.Fa.free "super").ok K && ((He.Fa.free "ValueError").ok K && es.all (errOne P es K))
theorem errs_of {P : Program} {K : PySem.W.Frag} {h : Heap} {mg : Str → Option Value} {l : Lay} {es : List (Str × Nat)} (X : K.In h) (G : h.Ns mainGlobals mg) (hl : l.XR = errLay es K) (c : errOk P es K = true) : Errs P K mg l es := by
  unfold errOk at c
  obtain ⟨c1, c⟩ := He.ba c
  obtain ⟨c2, c3⟩ := He.ba c
  have one : ∀ e ∈ es, errOne P es K e = true := fun e he => List.all_eq_true.mp c3 e he
  have glo : ∀ e ∈ es, mg e.1 = some (.ref (He.ga K e.1)) := fun e he => by
    have z := one e he
    unfold errOne at z
    exact He.glo_ok X G (He.ba z).1
  have two : ∀ e ∈ es, 0 < e.2 → e.2 < 500 → (supOk P K (He.ga K e.1) && (excCB K (He.ga K e.1) && (decide (PySem.W.kitOne K (.ref (He.ga K e.1)) (.type "ValueError") = some true) &&
      es.all fun e' => decide (PySem.W.exmOne K (.ref (He.ga K e.1)) (.ref (He.ga K e'.1)) = some (hitE e.2 e'.2)) && decide (PySem.W.kitOne K (.ref (He.ga K e.1)) (.ref (He.ga K e'.1)) = some (hitE e.2 e'.2))))) = true := fun e he h0 h5 => by
    have z := one e he
    unfold errOne at z
    have z2 := (He.ba z).2
    rw [Bool.or_eq_true] at z2
    rcases z2 with z2 | z2
    · rw [Bool.or_eq_true] at z2
      rcases z2 with z2 | z2
      · have := beq_iff_eq.mp z2
        omega
      · have := of_decide_eq_true z2
        omega
    · exact z2
  refine ⟨fun _ => He.free_ok X G c1, fun _ => He.free_ok X G c2, fun e he => ⟨_, glo e he⟩, fun e he h0 h5 => ⟨_, glo e he, supC_of (He.ba (two e he h0 h5)).1, fun Hi H => ?_⟩, fun c fs cls d Hi H z => ?_⟩
  · rw [hl]
    exact ⟨rfl, rfl, e, he, rfl, h0, h5, rfl⟩
  · rw [hl] at z
    obtain ⟨rfl, rfl, e, he, rfl, h0, h5, rfl⟩ := z
    have t := (He.ba (two e he h0 h5)).2
    obtain ⟨t1, t⟩ := He.ba t
    obtain ⟨t2, t3⟩ := He.ba t
    refine ⟨rfl, rfl, _, rfl, excC_of t1, of_decide_eq_true t2, fun e' he' D hD => ?_⟩
    have hD' := (glo e' he').symm.trans hD
    cases hD'
    have u := List.all_eq_true.mp t3 e' he'
    obtain ⟨u1, u2⟩ := He.ba u
    exact ⟨of_decide_eq_true u1, of_decide_eq_true u2⟩
theorem Errs.sub {P : Program} {K : PySem.W.Frag} {mg : Str → Option Value} {l : Lay} {es es' : List (Str × Nat)} (E : Errs P K mg l es) (h : ∀ e ∈ es', e ∈ es) : Errs P K mg l es' :=
  have ne : es' ≠ [] → es ≠ [] := fun n z => by
    cases es' with
    | nil => exact n rfl
    | cons e r =>
      have := h e (List.mem_cons_self ..)
      rw [z] at this
      cases this
  ⟨fun n => E.sup (ne n), fun n => E.ve (ne n), fun e he => E.cls e (h e he), fun e he => E.mkr e (h e he), fun c fs cls d Hi H z => by
    obtain ⟨a1, a2, C, a3, a4, a5, a6⟩ := E.got c fs cls d Hi H z
    exact ⟨a1, a2, C, a3, a4, a5, fun e he => a6 e (h e he)⟩⟩
end Un
end
section
/-! Un: the law's own def: the source is made, then the rest. -/
namespace Un
open PySem PySem.Spec PyProof.Rows L2
def spSource (K : PySem.W.Frag) : Sp := fun vs H Q _ => ∃ (a : Addr) (ns : List Int), vs = [.ref a] ∧ SqL K H a (ns.map V.int) ∧ ns.length ≤ 63 ∧ ∀ L H', srcK L → L.ok H' → (∀ b o, H b = some o → H' b = some o) → (∀ b, L.foot b → H b = none) → Q (.ref L.p) H'
def spSrc (κ : Loc → Prop) (K : PySem.W.Frag) : Sp := fun vs H Q _ => ∃ (a : Addr) (ns : List Int), vs = [.ref a] ∧ SqL K H a (ns.map V.int) ∧ ns.length ≤ 63 ∧ ∀ L H', κ L → L.ok H' → (∀ b o, H b = some o → H' b = some o) → (∀ b, L.foot b → H b = none) → Q (.ref L.p) H'
def spLaw (K : PySem.W.Frag) : Sp := fun vs H Q _ => ∃ (a : Addr) (ns : List Int), vs = [.ref a] ∧ SqL K H a (ns.map V.int) ∧ ns.length ≤ 63 ∧ ∀ H', Q (.bl true) H'
theorem cut_ints (ns : List Int) (lo hi : Option Int) : cutV (ns.map V.int) lo hi = (Un.cut ns lo hi).map V.int := by
  unfold cutV Un.cut
  rw [List.length_map, ← List.map_drop, ← List.map_take]
theorem rel_law {K : PySem.W.Frag} {L : Loc} {H : Hp} {N : List Str} {v : V} {n : Nat} (ok : L.ok H) (hn : N.length = n + 2) : Rel K L (fun _ => none) H (fun _ => none) ((L2.start N [v]).set 1 (some (.ref L.p))) H (ρLaw n) where
  g := Grow.refl fun _ _ z => nomatch (show (none : Option HO) = some _ from z)
  src := ok
  srcB := ok
  av0 := fun _ _ => rfl
  len := by
    unfold ρLaw L2.start
    rw [List.length_set, List.length_append, List.length_cons, List.length_cons, List.length_replicate, List.length_replicate, List.length_map, hn]
    show n + 1 + 1 = 1 + (n + 2 - 1)
    omega
  slot := fun i r e => by
    unfold L2.start
    rw [hn]
    show ∃ v', ((some v :: List.replicate (n + 2 - 1) none).set 1 (some (V.ref L.p)))[i]? = some v' ∧ SvOk K L H (fun _ => none) H v' r
    rw [show n + 2 - 1 = n + 1 by omega, List.replicate_succ]
    show ∃ v', (some v :: some (V.ref L.p) :: List.replicate n none)[i]? = some v' ∧ _
    match i, e with
    | 0, e =>
      cases e
      exact ⟨_, rfl, trivial⟩
    | 1, e =>
      cases e
      exact ⟨_, rfl, rfl⟩
    | i + 2, e =>
      have e : (List.replicate n SV.un)[i]? = some r := e
      rw [List.getElem?_replicate] at e
      split at e
      · cases e
        refine ⟨none, ?_, trivial⟩
        show (List.replicate n none)[i]? = _
        rw [List.getElem?_replicate, if_pos (by assumption)]
      · cases e
  apart := fun i j r q a hij e1 e2 o1 o2 _ _ => by
    have no : ∀ (i : Nat) r, (ρLaw n)[i]? = some r → isOwn r = true → False := fun i r e o => by
      match i, e with
      | 0, e => cases e; cases o
      | 1, e => cases e; cases o
      | i + 2, e =>
        have e : (List.replicate n SV.un)[i]? = some r := e
        rw [List.getElem?_replicate] at e
        split at e
        · cases e
          cases o
        · cases e
    exact no i r e1 o1
/-- the law's def: true, if the rest comes to that -/
theorem law_fnG {P : Program} {w : World} {mg : Str → Option Value} {base : Heap} {l : Lay} {f fS : Addr} {x qual : Str} {params : Arguments} {body rest : List Stmt} {scope : Scope} {dvs : List V} {kws : List (Str × V)} {fd fdS : FuncData} {nc : Nc} {fe : FE} {S : Sm} {j : Nat} {py p1 p2 p3 p4 : Pos} {κ : Loc → Prop} {ysrc xsrc : Str}
    (hκ : l.κ = κ) (hdb : (xsrc == ("__debug__" : Str)) = false) (F : FunD l.K x qual params body scope dvs kws f fd) (Sc : FnScope nc.N ["_law_script"] scope) (G : Glob P w mg base l nc fe)
    (hb : body = .Assign [.Name ysrc py] (.Call (.Name xsrc p1) [.Name "_law_script" p2] [] p3) p4 :: rest)
    (hN0 : nc.N[0]? = some ("_law_script" : Str)) (hN1 : nc.N[1]? = some (ysrc : Str)) (hl0 : visB scope "_law_script" = true) (hl1 : locB scope ysrc = true) (hg : glB scope xsrc = true)
    (hm : mg xsrc = some (.ref fS)) (hk : PySem.W.keepIn l.K (.ref fS) = true) (hS : FnG P w l.K mg base j fS fdS ["_law_script"] (spSrc κ l.K)) (hj : j ≤ nc.k) (hB : KBg l.K fdS 1 ["_law_script"] [] (gP [0]) (gP [0]))
    (hc : (chkS nc scope S).b rest = true) (good : ex fe noX S (ρLaw (nc.N.length - 2)) fun fl => fl = .rt (.d (.bool true))) : FnG P w l.K mg base (nc.k + 1) f fd ["_law_script"] (spLaw l.K) := by
  subst hb
  refine fn_ofG F Sc (fun vs H Q E h => ?_) fun cdv A outer s H vs Q E hr h => ?_
  · obtain ⟨a, ns, rfl, _⟩ := h
    rfl
  · let lE : Lay := { l with W := fun cls d _ H' => E cls d H' }
    have fit : SFit (cxOf (L2.CX P w) P w l.K mg base nc.N qual scope f cdv A outer s H E) nc scope lE fe :=
      { f := { N := rfl, nd := Sc.nd, sc := rfl, K := rfl, calm := rfl, room := hr, tk := takes_of rfl rfl rfl rfl, mgn := G.mgn, gcd := G.gcd, pats := fun p hp => by
                 obtain ⟨a, fd, ps, q1, q2, q3, q4, q5⟩ := (G.pats p hp).ex
                 exact ⟨a, fd, ps, q1, q2, q3, q4, q5⟩
               csts := G.csts
               errs := ⟨G.errs.sup, G.errs.ve, G.errs.cls, G.errs.mkr, G.errs.got⟩ }
        fn := fun _ => rfl
        po := passes_of rfl
        stk := rfl
        frm := rfl }
    obtain ⟨a, ns, rfl, hs, hn, hQ⟩ := h
    have o1 := fit.own _ hl1
    have pe : PE (cxOf (L2.CX P w) P w l.K mg base nc.N qual scope f cdv A outer s H E) (.Call (.Name xsrc p1) [.Name "_law_script" p2] [] p3) (tCallG (spSrc κ l.K) 1 0 (gP [0]) (fun cls d _ H' => E cls d H') (tCons (tVar 0) tNil) tNil) :=
      pe_callG (kws := []) (hS.mono hj) hr (fit.f.gl hg) hm hk hB fit.f.tk (pa_cons (pe_var hN0 (fit.f.vis hl0)) pa_nil (star_cons rfl [] _)) pk_nil rfl hdb (star_cons rfl [] _) rfl
    refine ⟨_, pss_cons (ps_set Sc.nd hN1 o1.1 pe rfl o1.2) ((ssnd S (x := noX) fit).b rest hc), ?_⟩
    refine ⟨_, rfl, rfl, rfl, a, ns, rfl, hs, hn, fun L H' hL ok _ _ => ?_⟩
    have hlen : nc.N.length = (nc.N.length - 2) + 2 := by
      have := (List.getElem?_eq_some_iff.mp hN1).1
      omega
    refine ⟨L, fun _ => none, H', fun _ => none, ρLaw (nc.N.length - 2), _, ⟨by show l.κ L; rw [hκ]; exact hL, rel_law ok hlen, fun _ _ _ _ _ _ _ _ _ _ _ z => z.elim⟩, good, fun fl hfl => ?_⟩
    subst hfl
    intro v Hi' H2 _ _ hv
    have hv : Dq l.K Hi' v (.bool true) := hv
    cases hv
    exact hQ _
/-- the law's def with the source of k01 to k15 -/
theorem law_fn {P : Program} {w : World} {mg : Str → Option Value} {base : Heap} {l : Lay} {f fS : Addr} {x qual : Str} {params : Arguments} {body rest : List Stmt} {scope : Scope} {dvs : List V} {kws : List (Str × V)} {fd fdS : FuncData} {nc : Nc} {fe : FE} {S : Sm} {j : Nat} {py p1 p2 p3 p4 : Pos}
    (hκ : l.κ = srcK) (F : FunD l.K x qual params body scope dvs kws f fd) (Sc : FnScope nc.N ["_law_script"] scope) (G : Glob P w mg base l nc fe)
    (hb : body = .Assign [.Name "_law_source_here" py] (.Call (.Name "_law_source" p1) [.Name "_law_script" p2] [] p3) p4 :: rest)
    (hN0 : nc.N[0]? = some ("_law_script" : Str)) (hN1 : nc.N[1]? = some ("_law_source_here" : Str)) (hl0 : visB scope "_law_script" = true) (hl1 : locB scope "_law_source_here" = true) (hg : glB scope "_law_source" = true)
    (hm : mg "_law_source" = some (.ref fS)) (hk : PySem.W.keepIn l.K (.ref fS) = true) (hS : FnG P w l.K mg base j fS fdS ["_law_script"] (spSource l.K)) (hj : j ≤ nc.k) (hB : KBg l.K fdS 1 ["_law_script"] [] (gP [0]) (gP [0]))
    (hc : (chkS nc scope S).b rest = true) (good : ex fe noX S (ρLaw (nc.N.length - 2)) fun fl => fl = .rt (.d (.bool true))) : FnG P w l.K mg base (nc.k + 1) f fd ["_law_script"] (spLaw l.K) :=
  law_fnG (κ := srcK) hκ (by decide) F Sc G hb hN0 hN1 hl0 hl1 hg hm hk hS hj hB hc good
/-- one object, one def -/
theorem fd_same {K : PySem.W.Frag} {x qual : Str} {params : Arguments} {body : List Stmt} {scope : Scope} {dvs : List V} {kws : List (Str × V)} {f : Addr} {fd fd2 : FuncData} (F : FunD K x qual params body scope dvs kws f fd) (F2 : FunD K x qual params body scope dvs kws f fd2) : fd = fd2 := by
  obtain ⟨oc, od, dV, kV, doc, pm, an, cdv, ct, osl, e, lk, _⟩ := F.ex
  obtain ⟨oc2, od2, dV2, kV2, doc2, pm2, an2, cdv2, ct2, osl2, e2, lk2, _⟩ := F2.ex
  rw [lk] at lk2
  have h := Option.some.inj lk2
  rw [Obj.mk.injEq] at h
  exact Data.func.inj h.2.2.1
end Un
end
section
/-! Un: the bowl of k45 to k57 (a list of two lists and two numbers), as a place. -/
namespace Un
open PySem PySem.Spec L2
def bowlXs (p q : Addr) (fold turn : Int) : List V := [.ref p, .ref q, .int fold, .int turn]
def bowlL (d p q : Addr) : Loc where
  p := d
  foot := fun a => a = d ∨ a = p ∨ a = q
  ok := fun H => ∃ (deep small : List Int) (fold turn : Int), H d = some (.lst (bowlXs p q fold turn)) ∧ H p = some (.lst (deep.map V.int)) ∧ H q = some (.lst (small.map V.int)) ∧ small ≠ []
  mono := fun H H' ⟨deep, small, fold, turn, h1, h2, h3, h4⟩ e => ⟨deep, small, fold, turn, (e d (.inl rfl)).trans h1, (e p (.inr (.inl rfl))).trans h2, (e q (.inr (.inr rfl))).trans h3, h4⟩
  dom := fun H a ⟨deep, small, fold, turn, h1, h2, h3, h4⟩ f => by
    rcases f with rfl | rfl | rfl
    · rw [h1]; simp
    · rw [h2]; simp
    · rw [h3]; simp
def bowlK (L : Loc) : Prop := ∃ d p q, p ≠ q ∧ d ≠ p ∧ d ≠ q ∧ L = bowlL d p q
/-- drawing changes the bowl alone -/
theorem bowl_grow {d p q : Addr} {Hi H H' : Hp} (sm : Same Hi H) (hf : ∀ a, (bowlL d p q).foot a → Hi a = none) (k : ∀ a o, H a = some o → ¬ (bowlL d p q).foot a → H' a = some o) (dom : ∀ a, H' a = none → H a = none) : Grow (bowlL d p q) Hi H Hi H' where
  keep := k
  dom := dom
  mono := Same.refl _
  sub := fun a o e => k a o (sm a o e) fun f => by
    rw [hf a f] at e
    cases e
  fr := fun a h1 h2 => absurd h2 h1
theorem at_three {α : Type} (a b c d : α) : atI [a, b, c, d] 3 = some d := rfl
theorem at_two {α : Type} (a b c d : α) : atI [a, b, c, d] 2 = some c := rfl
theorem at_one {α : Type} (a b c d : α) : atI [a, b, c, d] 1 = some b := rfl
theorem at_nul {α : Type} (a b c d : α) : atI [a, b, c, d] 0 = some a := rfl
theorem at_end {α : Type} (xs : List α) (y : α) : atI (xs ++ [y]) (-1) = some y := by
  unfold atI ixN
  have h : ¬ (0 : Int) ≤ -1 := by omega
  rw [if_neg h, if_pos (by simp; omega)]
  have e : ((xs ++ [y]).length : Int) = (xs.length : Int) + 1 := by simp
  rw [e]
  have e2 : (-1 + ((xs.length : Int) + 1)).toNat = xs.length := by omega
  have e3 : ((xs.length : Int) + 1 + -1).toNat = xs.length := by omega
  simp [e2, e3]
theorem ix_end {α : Type} (xs : List α) (y : α) : ixN (xs ++ [y]).length (-1) = some xs.length := by
  unfold ixN
  have h : ¬ (0 : Int) ≤ -1 := by omega
  rw [if_neg h, if_pos (by simp; omega)]
  congr 1
  simp
  omega
theorem cyc_get {small : List Int} (h : small ≠ []) (t : Int) : ∃ c : Int, atI (small.map V.int) (t.fmod ((small.map V.int).length : Int)) = some (.int c) := by
  have hlen : (0 : Int) < small.length := by
    cases small with
    | nil => exact absurd rfl h
    | cons a r => simp <;> omega
  have h0 : 0 ≤ t.fmod small.length := Int.fmod_nonneg_of_pos _ hlen
  have h1 : t.fmod small.length < small.length := Int.fmod_lt_of_pos _ hlen
  unfold atI ixN
  rw [List.length_map, if_pos h0, if_pos h1]
  have h2 : (t.fmod small.length).toNat < small.length := by omega
  exact ⟨small[(t.fmod small.length).toNat], by simp [h2]⟩
theorem small7 (y m : Int) (h0 : 0 < m) (h1 : m < 2 ^ 64) : -(2 ^ 64) < y.fmod m ∧ y.fmod m < 2 ^ 64 := by
  have q1 := Int.fmod_nonneg_of_pos y h0
  have q2 := Int.fmod_lt_of_pos y h0
  omega
end Un
end
section
/-! Un: how the meaning of a term is read off, step by step (for simp). -/
namespace Un
open PySem
section
variable {fe : FE} {x : KX} {ρ : List SV} {k : KA}
@[simp] theorem v_dat {d} : (ev fe x (.dat d)).v ρ k = k (.d d) := rfl
@[simp] theorem v_scr {i} : (ev fe x (.scr i)).v ρ k = (ρ[i]? = some .scr ∧ ∀ ns : List Int, ns.length ≤ 63 → k (.new (ns.map PyData.int))) := rfl
@[simp] theorem v_var {i} : (ev fe x (.var i)).v ρ k = varW ρ i k := rfl
@[simp] theorem v_bin {o a b} : (ev fe x (.bin o a b)).v ρ k = (ev fe x a).v ρ fun p => (ev fe x b).v ρ fun q => w2 o p q k := rfl
@[simp] theorem v_un {o a} : (ev fe x (.un o a)).v ρ k = (ev fe x a).v ρ fun p => w1 o p k := rfl
@[simp] theorem v_fn2 {o a b} : (ev fe x (.fn2 o a b)).v ρ k = (ev fe x a).v ρ fun p => (ev fe x b).v ρ fun q => w3 o p q k := rfl
@[simp] theorem v_band {a b} : (ev fe x (.band a b)).v ρ k = (ev fe x a).v ρ fun p => ∃ c, p = .d (.bool c) ∧ if c = true then (ev fe x b).v ρ k else k (.d (.bool false)) := rfl
@[simp] theorem v_bor {a b} : (ev fe x (.bor a b)).v ρ k = (ev fe x a).v ρ fun p => ∃ c, p = .d (.bool c) ∧ if c = true then k (.d (.bool true)) else (ev fe x b).v ρ k := rfl
@[simp] theorem v_bnot {a} : (ev fe x (.bnot a)).v ρ k = (ev fe x a).v ρ fun p => ∃ c, p = .d (.bool c) ∧ k (.d (.bool (!c))) := rfl
@[simp] theorem v_ife {c a b} : (ev fe x (.ife c a b)).v ρ k = (ev fe x c).t ρ fun t => if t = true then (ev fe x a).v ρ k else (ev fe x b).v ρ k := rfl
@[simp] theorem v_tup {es} : (ev fe x (.tup es)).v ρ k = (ev fe x es).l ρ fun as => ∃ xs, embs? as = some xs ∧ xs.length ≤ sizeLine ∧ k (.d (.tuple xs)) := rfl
@[simp] theorem v_lst {es} : (ev fe x (.lst es)).v ρ k = (ev fe x es).l ρ fun as => ∃ xs, embs? as = some xs ∧ xs.length ≤ sizeLine ∧ k (.new xs) := rfl
@[simp] theorem v_slc {a lo hi} : (ev fe x (.slc a lo hi)).v ρ k = (ev fe x a).v ρ fun p => (ev fe x lo).o ρ fun l => (ev fe x hi).o ρ fun h => slcW p l h k := rfl
@[simp] theorem v_zl {es} : (ev fe x (.zl es)).v ρ k = (ev fe x es).l ρ fun as => zlW (eLen es) as k := rfl
@[simp] theorem v_rev {a} : (ev fe x (.rev a)).v ρ k = (ev fe x a).v ρ fun p => revW p k := rfl
@[simp] theorem v_call {f perm es ks} : (ev fe x (.call f perm es ks)).v ρ k = (ev fe x es).l ρ fun as => as.length = eLen es ∧ (ev fe x ks).l ρ fun bs => bs.length = eLen ks ∧ ∃ cs, permL ((as ++ bs).map argOf) perm = some cs ∧ callW fe x f ((as ++ bs).any AV.isBor) cs k := rfl
@[simp] theorem v_cmp {own elt tg it c} : (ev fe x (.cmp own elt tg it c)).v ρ k = (ev fe x it).i ρ fun xs =>
      cmpW tg (if isNo c = true then none else some (ev fe (fun _ _ => False) c).t) (ev fe (fun _ _ => False) elt).v (wipeS ρ own) xs [] fun ys => k (.new ys) := rfl
@[simp] theorem v_max3 {a b c} : (ev fe x (.max3 a b c)).v ρ k = (ev fe x a).v ρ fun p => (ev fe x b).v ρ fun q => (ev fe x c).v ρ fun r => max3W p q r k := rfl
variable {kt : Bool → Prop}
@[simp] theorem t_dat {d} : (ev fe x (.dat d)).t ρ kt = truthW (.d d) kt := rfl
@[simp] theorem t_var {i} : (ev fe x (.var i)).t ρ kt = varW ρ i fun a => truthW a kt := rfl
@[simp] theorem t_bin {o a b} : (ev fe x (.bin o a b)).t ρ kt = (ev fe x a).v ρ fun p => (ev fe x b).v ρ fun q => w2 o p q fun a => truthW a kt := rfl
@[simp] theorem t_un {o a} : (ev fe x (.un o a)).t ρ kt = (ev fe x a).v ρ fun p => w1 o p fun a => truthW a kt := rfl
@[simp] theorem t_call {f perm es ks} : (ev fe x (.call f perm es ks)).t ρ kt = (ev fe x (.call f perm es ks)).v ρ fun a => truthW a kt := rfl
@[simp] theorem t_band {a b} : (ev fe x (.band a b)).t ρ kt = (ev fe x a).t ρ fun c => if c = true then (ev fe x b).t ρ kt else kt false := rfl
@[simp] theorem t_bor {a b} : (ev fe x (.bor a b)).t ρ kt = (ev fe x a).t ρ fun c => if c = true then kt true else (ev fe x b).t ρ kt := rfl
@[simp] theorem t_bnot {a} : (ev fe x (.bnot a)).t ρ kt = (ev fe x a).t ρ fun c => kt (!c) := rfl
variable {ki : List PyData → Prop}
@[simp] theorem i_scr {i} : (ev fe x (.scr i)).i ρ ki = (ev fe x (.scr i)).v ρ fun a => seqW a ki := rfl
@[simp] theorem i_var {i} : (ev fe x (.var i)).i ρ ki = varW ρ i fun a => seqW a ki := rfl
@[simp] theorem i_dat {d} : (ev fe x (.dat d)).i ρ ki = seqW (.d d) ki := rfl
@[simp] theorem i_bin {o a b} : (ev fe x (.bin o a b)).i ρ ki = (ev fe x (.bin o a b)).v ρ fun a => seqW a ki := rfl
@[simp] theorem i_un {o a} : (ev fe x (.un o a)).i ρ ki = (ev fe x (.un o a)).v ρ fun a => seqW a ki := rfl
@[simp] theorem i_lst {es} : (ev fe x (.lst es)).i ρ ki = (ev fe x (.lst es)).v ρ fun a => seqW a ki := rfl
@[simp] theorem i_tup {es} : (ev fe x (.tup es)).i ρ ki = (ev fe x (.tup es)).v ρ fun a => seqW a ki := rfl
@[simp] theorem i_slc {a b c} : (ev fe x (.slc a b c)).i ρ ki = (ev fe x (.slc a b c)).v ρ fun a => seqW a ki := rfl
@[simp] theorem i_zl {es} : (ev fe x (.zl es)).i ρ ki = (ev fe x (.zl es)).v ρ fun a => seqW a ki := rfl
@[simp] theorem i_rev {a} : (ev fe x (.rev a)).i ρ ki = (ev fe x (.rev a)).v ρ fun a => seqW a ki := rfl
@[simp] theorem i_call {f perm es ks} : (ev fe x (.call f perm es ks)).i ρ ki = (ev fe x (.call f perm es ks)).v ρ fun a => seqW a ki := rfl
@[simp] theorem i_cmp {own elt tg it c} : (ev fe x (.cmp own elt tg it c)).i ρ ki = (ev fe x (.cmp own elt tg it c)).v ρ fun a => seqW a ki := rfl
@[simp] theorem i_rng1 {a} : (ev fe x (.rng1 a)).i ρ ki = (ev fe x a).v ρ fun p => intW p fun n => RngOk n ∧ ki (rngL 0 1 n.toNat) := rfl
@[simp] theorem i_rng2 {a b} : (ev fe x (.rng2 a b)).i ρ ki = (ev fe x a).v ρ fun p => (ev fe x b).v ρ fun q => intW p fun m => intW q fun n => (RngOk m ∧ RngOk n) ∧ ki (rngL m 1 (n - m).toNat) := rfl
@[simp] theorem i_rng3 {a b c} : (ev fe x (.rng3 a b c)).i ρ ki = (ev fe x a).v ρ fun p => (ev fe x b).v ρ fun q => (ev fe x c).v ρ fun r => intW p fun m => intW q fun n => intW r fun s => ∃ c, L2.RgC m n s c ∧ ki (rngL m s c) := rfl
@[simp] theorem i_enu {a} : (ev fe x (.enu a)).i ρ ki = (ev fe x a).v ρ fun p => seqW p fun xs => ki (enuL 0 xs) := rfl
@[simp] theorem i_zip {a b} : (ev fe x (.zip2 a b)).i ρ ki = (ev fe x a).v ρ fun p => (ev fe x b).v ρ fun q => seq2W p q fun xs ys => ki (zipL xs ys) := rfl
@[simp] theorem i_rvd {a} : (ev fe x (.rvd a)).i ρ ki = (ev fe x a).v ρ fun p => seqW p fun xs => ki xs.reverse := rfl
variable {ko : Option Int → Prop} {kl : List AV → Prop}
@[simp] theorem o_no : (ev fe x .no).o ρ ko = ko none := rfl
@[simp] theorem o_dat {d} : (ev fe x (.dat d)).o ρ ko = intW (.d d) fun n => ko (some n) := rfl
@[simp] theorem o_call {f perm es ks} : (ev fe x (.call f perm es ks)).o ρ ko = (ev fe x (.call f perm es ks)).v ρ fun a => intW a fun n => ko (some n) := rfl
@[simp] theorem o_var {i} : (ev fe x (.var i)).o ρ ko = varW ρ i fun a => intW a fun n => ko (some n) := rfl
@[simp] theorem o_un {o a} : (ev fe x (.un o a)).o ρ ko = (ev fe x (.un o a)).v ρ fun a => intW a fun n => ko (some n) := rfl
@[simp] theorem o_bin {o a b} : (ev fe x (.bin o a b)).o ρ ko = (ev fe x (.bin o a b)).v ρ fun a => intW a fun n => ko (some n) := rfl
@[simp] theorem l_nil : (ev fe x .nil).l ρ kl = kl [] := rfl
@[simp] theorem l_cons {a r} : (ev fe x (.cons a r)).l ρ kl = (ev fe x a).v ρ fun p => (ev fe x r).l ρ fun ps => kl (p :: ps) := rfl
variable {kf : KF}
@[simp] theorem x_set {i e} : ex fe x (.set i e) ρ kf = (ev fe x e).v ρ fun a => setW ρ i a fun ρ' => kf (.nx ρ') := rfl
@[simp] theorem x_unp {is e} : ex fe x (.unp is e) ρ kf = (ev fe x e).v ρ fun a => ∃ xs, a.items? = some xs ∧ ∃ ρ', setD is xs ρ = some ρ' ∧ kf (.nx ρ') := rfl
@[simp] theorem x_par {is es} : ex fe x (.par is es) ρ kf = (ev fe x es).l ρ fun as => setA is as ρ fun ρ' => kf (.nx ρ') := rfl
@[simp] theorem x_put {i j e} : ex fe x (.put i j e) ρ kf = (ev fe x e).v ρ fun a => ∃ y, a.emb? = some y ∧ ∃ xs, ρ[i]? = some (.own xs) ∧
      (ev fe x j).v ρ fun p => intW p fun n => ∃ m, ixOf xs.length n = some m ∧ kf (.nx (ρ.set i (.own (xs.set m y)))) := rfl
@[simp] theorem x_app {i e} : ex fe x (.app i e) ρ kf = ∃ xs, ρ[i]? = some (.own xs) ∧ (ev fe x e).v ρ fun a => ∃ y, a.emb? = some y ∧ xs.length < sizeLine ∧ kf (.nx (ρ.set i (.own (xs ++ [y])))) := rfl
@[simp] theorem x_ret {e} : ex fe x (.ret e) ρ kf = (ev fe x e).v ρ fun a => kf (.rt a) := rfl
@[simp] theorem x_retN : ex fe x .retN ρ kf = kf (.rt (.d .none)) := rfl
@[simp] theorem x_drop {e} : ex fe x (.drop e) ρ kf = (ev fe x e).v ρ fun _ => kf (.nx ρ) := rfl
@[simp] theorem x_ifs {c a b} : ex fe x (.ifs c a b) ρ kf = (ev fe x c).t ρ fun t => if t = true then ex fe x a ρ kf else ex fe x b ρ kf := rfl
@[simp] theorem x_loop {tg it b} : ex fe x (.loop tg it b) ρ kf = (ev fe x it).i ρ fun xs => loopW tg (ex fe x b) xs ρ kf := rfl
@[simp] theorem x_whl {c b} : ex fe x (.whl c b) ρ kf = ∃ n, whlW (ev fe x c).t (ex fe x b) n ρ kf := rfl
@[simp] theorem x_brk : ex fe x .brk ρ kf = kf (.bk ρ) := rfl
@[simp] theorem x_cnt : ex fe x .cnt ρ kf = kf (.ct ρ) := rfl
@[simp] theorem x_pass : ex fe x .pass ρ kf = kf (.nx ρ) := rfl
@[simp] theorem x_frz {i} : ex fe x (.frz i) ρ kf = ∃ xs, ρ[i]? = some (.own xs) ∧ kf (.nx (ρ.set i (.d (.list xs)))) := rfl
@[simp] theorem x_rs {c} : ex fe x (.rs c) ρ kf = x c [] := rfl
@[simp] theorem x_try {b c i su} : ex fe x (.tryx b c i su) ρ kf = ex fe (fun c' fs => if hitE c' c = true then fs = [] ∧ kf (.rt (.new [.str (su.ans c')])) else x c' fs) b ρ kf := rfl
@[simp] theorem x_nil : ex fe x .nil ρ kf = kf (.nx ρ) := rfl
@[simp] theorem x_cons {s r} : ex fe x (.cons s r) ρ kf = ex fe x s ρ fun fl => match fl with
    | .nx ρ' => ex fe x r ρ' kf
    | o => kf o := rfl
end
section
variable {k : KA} {i j : Int}
@[simp] theorem var0 {r ρ} : varW (r :: ρ) 0 k = (match r with | .d x => k (.d x) | .own xs => k (.bor xs) | .src => k .src | .un => False | .scr => False) := by cases r <;> rfl
@[simp] theorem varS {r ρ n} : varW (r :: ρ) (n + 1) k = varW ρ n k := rfl
@[simp] theorem var1 {r ρ} : varW (r :: ρ) 1 k = varW ρ 0 k := rfl
@[simp] theorem var2 {r s ρ} : varW (r :: s :: ρ) 2 k = varW ρ 0 k := rfl
@[simp] theorem var3 {r s t ρ} : varW (r :: s :: t :: ρ) 3 k = varW ρ 0 k := rfl
@[simp] theorem var4 {r s t u ρ} : varW (r :: s :: t :: u :: ρ) 4 k = varW ρ 0 k := rfl
@[simp] theorem var5 {r s t u v ρ} : varW (r :: s :: t :: u :: v :: ρ) 5 k = varW ρ 0 k := rfl
@[simp] theorem var6 {r s t u v w ρ} : varW (r :: s :: t :: u :: v :: w :: ρ) 6 k = varW ρ 0 k := rfl
@[simp] theorem var7 {r s t u v w y ρ} : varW (r :: s :: t :: u :: v :: w :: y :: ρ) 7 k = varW ρ 0 k := rfl
@[simp] theorem var8 {r s t u v w y z ρ} : varW (r :: s :: t :: u :: v :: w :: y :: z :: ρ) 8 k = varW ρ 0 k := rfl
theorem w2_intro {o a b x y} (h : b2 o x y k) (ha : a.dat? = some x) (hb : b.dat? = some y) : w2 o a b k := ⟨x, y, ha, hb, h⟩
@[simp] theorem add_int : w2 .add (.d (.int i)) (.d (.int j)) k ↔ k (.d (.int (i + j))) := ⟨fun ⟨_, _, h1, h2, h⟩ => by cases h1; cases h2; exact h, fun h => ⟨_, _, rfl, rfl, h⟩⟩
@[simp] theorem sub_int : w2 .sub (.d (.int i)) (.d (.int j)) k ↔ k (.d (.int (i - j))) := ⟨fun ⟨_, _, h1, h2, h⟩ => by cases h1; cases h2; exact h, fun h => ⟨_, _, rfl, rfl, h⟩⟩
@[simp] theorem mul_int : w2 .mul (.d (.int i)) (.d (.int j)) k ↔ MulOk i j ∧ k (.d (.int (i * j))) := ⟨fun ⟨_, _, h1, h2, h⟩ => by cases h1; cases h2; exact h, fun h => ⟨_, _, rfl, rfl, h⟩⟩
@[simp] theorem fdiv_int : w2 .fdiv (.d (.int i)) (.d (.int j)) k ↔ DivOk j ∧ k (.d (.int (i.fdiv j))) := ⟨fun ⟨_, _, h1, h2, h⟩ => by cases h1; cases h2; exact h, fun h => ⟨_, _, rfl, rfl, h⟩⟩
@[simp] theorem mod_int : w2 .mod (.d (.int i)) (.d (.int j)) k ↔ j ≠ 0 ∧ k (.d (.int (i.fmod j))) := ⟨fun ⟨_, _, h1, h2, h⟩ => by cases h1; cases h2; exact h, fun h => ⟨_, _, rfl, rfl, h⟩⟩
theorem shp_int : shp (.int i) := by simp [shp, SeqAt.shaped, PyData.canLay0, PyData.depth]
@[simp] theorem eq_int : w2 .eq (.d (.int i)) (.d (.int j)) k ↔ k (.d (.bool (decide (i = j)))) := by
  have e : PyData.eqv (.int i) (.int j) = decide (i = j) := by
    show (i == j) = _
    by_cases h : i = j <;> simp [h]
  constructor
  · rintro ⟨_, _, h1, h2, h⟩
    cases h1
    cases h2
    obtain ⟨_, _, h⟩ := h
    rwa [e] at h
  · intro h
    exact ⟨_, _, rfl, rfl, shp_int, shp_int, by rw [e]; exact h⟩
@[simp] theorem ne_int : w2 .ne (.d (.int i)) (.d (.int j)) k ↔ k (.d (.bool (!decide (i = j)))) := by
  have e : PyData.eqv (.int i) (.int j) = decide (i = j) := by
    show (i == j) = _
    by_cases h : i = j <;> simp [h]
  constructor
  · rintro ⟨_, _, h1, h2, h⟩
    cases h1
    cases h2
    obtain ⟨_, _, h⟩ := h
    rwa [e] at h
  · intro h
    exact ⟨_, _, rfl, rfl, shp_int, shp_int, by rw [e]; exact h⟩
@[simp] theorem lt_int : w2 .lt (.d (.int i)) (.d (.int j)) k ↔ k (.d (.bool (decide (i < j)))) := ⟨fun ⟨_, _, h1, h2, h⟩ => by cases h1; cases h2; exact h, fun h => ⟨_, _, rfl, rfl, h⟩⟩
@[simp] theorem le_int : w2 .le (.d (.int i)) (.d (.int j)) k ↔ k (.d (.bool (decide (i ≤ j)))) := ⟨fun ⟨_, _, h1, h2, h⟩ => by cases h1; cases h2; exact h, fun h => ⟨_, _, rfl, rfl, h⟩⟩
@[simp] theorem gt_int : w2 .gt (.d (.int i)) (.d (.int j)) k ↔ k (.d (.bool (decide (j < i)))) := ⟨fun ⟨_, _, h1, h2, h⟩ => by cases h1; cases h2; exact h, fun h => ⟨_, _, rfl, rfl, h⟩⟩
@[simp] theorem ge_int : w2 .ge (.d (.int i)) (.d (.int j)) k ↔ k (.d (.bool (decide (j ≤ i)))) := ⟨fun ⟨_, _, h1, h2, h⟩ => by cases h1; cases h2; exact h, fun h => ⟨_, _, rfl, rfl, h⟩⟩
theorem at0 {α : Type} {a : α} {r : List α} : atIx (a :: r) 0 = some a := by simp [atIx, L2.atI, L2.ixN] <;> omega
theorem at1 {α : Type} {a b : α} {r : List α} : atIx (a :: b :: r) 1 = some b := by
  have h : (1 : Int) < (r.length : Int) + 1 + 1 := by omega
  simp [atIx, L2.atI, L2.ixN, h]
@[simp] theorem idx0 {a r} : w2 .idx (.d (.tuple (a :: r))) (.d (.int 0)) k ↔ k (.d a) := ⟨fun ⟨_, _, h1, h2, h⟩ => by
  cases h1
  cases h2
  obtain ⟨v, e, h⟩ := h
  rw [at0] at e
  cases e
  exact h, fun h => ⟨_, _, rfl, rfl, a, at0, h⟩⟩
@[simp] theorem idx1 {a b r} : w2 .idx (.d (.tuple (a :: b :: r))) (.d (.int 1)) k ↔ k (.d b) := ⟨fun ⟨_, _, h1, h2, h⟩ => by
  cases h1
  cases h2
  obtain ⟨v, e, h⟩ := h
  rw [at1] at e
  cases e
  exact h, fun h => ⟨_, _, rfl, rfl, b, at1, h⟩⟩
@[simp] theorem tr_bool {b : Bool} {kt : Bool → Prop} : truthW (.d (.bool b)) kt ↔ kt b := ⟨fun ⟨_, h1, h⟩ => by cases h1; exact h, fun h => ⟨_, rfl, h⟩⟩
@[simp] theorem neg_int : w1 .neg (.d (.int i)) k ↔ k (.d (.int (-i))) := ⟨fun ⟨_, h1, h⟩ => by cases h1; exact h, fun h => ⟨_, rfl, h⟩⟩
@[simp] theorem abs_int : w1 .abs (.d (.int i)) k ↔ k (.d (.int (if i < 0 then -i else i))) := ⟨fun ⟨_, h1, h⟩ => by cases h1; exact h, fun h => ⟨_, rfl, h⟩⟩
@[simp] theorem int_int : w1 .int (.d (.int i)) k ↔ k (.d (.int i)) := ⟨fun ⟨_, h1, h⟩ => by cases h1; exact h, fun h => ⟨_, rfl, h⟩⟩
@[simp] theorem f3_int {o} : w3 o (.d (.int i)) (.d (.int j)) k ↔ k (.d (.int (b3 o i j))) := ⟨fun ⟨_, _, h1, h2, h⟩ => by cases h1; cases h2; exact h, fun h => ⟨_, _, rfl, rfl, h⟩⟩
@[simp] theorem int_w {ki : Int → Prop} : intW (.d (.int i)) ki ↔ ki i := ⟨fun ⟨_, h1, h⟩ => by cases h1; exact h, fun h => ⟨_, rfl, h⟩⟩
@[simp] theorem seq_t {xs ki} : seqW (.d (.tuple xs)) ki ↔ ki xs := ⟨fun ⟨_, h1, h⟩ => by cases h1; exact h, fun h => ⟨_, rfl, h⟩⟩
@[simp] theorem seq_l {xs ki} : seqW (.d (.list xs)) ki ↔ ki xs := ⟨fun ⟨_, h1, h⟩ => by cases h1; exact h, fun h => ⟨_, rfl, h⟩⟩
@[simp] theorem seq_n {xs ki} : seqW (.new xs) ki ↔ ki xs := ⟨fun ⟨_, h1, h⟩ => by cases h1; exact h, fun h => ⟨_, rfl, h⟩⟩
@[simp] theorem set_d {ρ n x} {kr : List SV → Prop} : setW ρ n (.d x) kr = kr (ρ.set n (.d x)) := rfl
@[simp] theorem set_n {ρ n xs} {kr : List SV → Prop} : setW ρ n (.new xs) kr = kr (ρ.set n (.own xs)) := rfl
@[simp] theorem set_s {ρ n} {kr : List SV → Prop} : setW ρ n .src kr = kr (ρ.set n .src) := rfl
@[simp] theorem setA_nil {ρ} {kr : List SV → Prop} : setA [] [] ρ kr = kr ρ := rfl
@[simp] theorem setA_cons {i is a as ρ} {kr : List SV → Prop} : setA (i :: is) (a :: as) ρ kr = setW ρ i a fun ρ' => setA is as ρ' kr := rfl
@[simp] theorem embs_nil : embs? [] = some [] := rfl
@[simp] theorem embs_d {x as} : embs? (.d x :: as) = (embs? as).map (x :: ·) := by
  show (match AV.emb? (.d x), embs? as with | some x, some xs => some (x :: xs) | _, _ => none) = _
  cases embs? as <;> rfl
@[simp] theorem embs_n {x as} : embs? (.new x :: as) = (embs? as).map (.list x :: ·) := by
  show (match AV.emb? (.new x), embs? as with | some x, some xs => some (x :: xs) | _, _ => none) = _
  cases embs? as <;> rfl
@[simp] theorem items_t {xs} : AV.items? (.d (.tuple xs)) = some xs := rfl
@[simp] theorem items_l {xs} : AV.items? (.d (.list xs)) = some xs := rfl
@[simp] theorem items_n {xs} : AV.items? (.new xs) = some xs := rfl
@[simp] theorem items_b {xs} : AV.items? (.bor xs) = some xs := rfl
@[simp] theorem m3_int {i j l k} : max3W (.d (.int i)) (.d (.int j)) (.d (.int l)) k ↔ k (.d (.int (b3 .max (b3 .max i j) l))) := ⟨fun ⟨_, _, _, h1, h2, h3, h⟩ => by cases h1; cases h2; cases h3; exact h, fun h => ⟨_, _, _, rfl, rfl, rfl, h⟩⟩
@[simp] theorem emb_d {x} : AV.emb? (.d x) = some x := rfl
@[simp] theorem emb_n {x} : AV.emb? (.new x) = some (.list x) := rfl
@[simp] theorem leave_d {y} : leaveW (.d y) k = k (.d y) := rfl
@[simp] theorem leave_n {y} : leaveW (.new y) k = k (.new y) := rfl
@[simp] theorem leave_b {y} : leaveW (.bor y) k = k (.new y) := rfl
@[simp] theorem bor_d {y} : AV.isBor (.d y) = false := rfl
@[simp] theorem bor_n {y} : AV.isBor (.new y) = false := rfl
@[simp] theorem bor_s : AV.isBor .src = false := rfl
@[simp] theorem bor_b {y} : AV.isBor (.bor y) = true := rfl
@[simp] theorem arg_d {y} : argOf (.d y) = .d y := rfl
@[simp] theorem arg_n {y} : argOf (.new y) = .d (.list y) := rfl
@[simp] theorem arg_b {y} : argOf (.bor y) = .d (.list y) := rfl
@[simp] theorem arg_s : argOf .src = .src := rfl
@[simp] theorem elen_n : eLen .nil = 0 := rfl
@[simp] theorem elen_c {a r} : eLen (.cons a r) = eLen r + 1 := rfl
@[simp] theorem call_f {fe x f args} : callW fe x f false args k = fe f args k x := rfl
@[simp] theorem call_t {fe x f args} : callW fe x f true args k = fe f args (fun r => ∃ y, r = .d y ∧ bare y = true ∧ k r) (fun _ _ => False) := rfl
@[simp] theorem perm_nil {α : Type} {l : List α} : permL l [] = some [] := rfl
@[simp] theorem perm_c {α : Type} {l : List α} {i r} : permL l (i :: r) = (match l[i]?, permL l r with
    | some a, some as => some (a :: as)
    | _, _ => none) := rfl
theorem sz (n : Nat) (h : n ≤ 1000) : n ≤ sizeLine := Nat.le_trans h (by decide)
@[simp] theorem isT_t {xs k} : w1 .isTuple (.d (.tuple xs)) k ↔ k (.d (.bool true)) := ⟨fun ⟨_, h1, h⟩ => by cases h1; exact h, fun h => ⟨_, rfl, h⟩⟩
@[simp] theorem isI_i {i : Int} {k} : w1 .isInt (.d (.int i)) k ↔ k (.d (.bool true)) := ⟨fun ⟨_, h1, h⟩ => by cases h1; exact h, fun h => ⟨_, rfl, h⟩⟩
@[simp] theorem isB_i {i : Int} {k} : w1 .isBool (.d (.int i)) k ↔ k (.d (.bool false)) := ⟨fun ⟨_, h1, h⟩ => by cases h1; exact h, fun h => ⟨_, rfl, h⟩⟩
theorem szl {n : Nat} (h : n ≤ 1000) : (n ≤ sizeLine) = True := eq_true (sz n h)
end
end Un
end
section
namespace Pg
open PySem Un
abbrev n_lowest : List Str := ["top", "bottom", "divisor"]
def b_lowest : Sm := (.cons (.set 2 (.fn2 .gcd (.var 0) (.var 1))) (.cons (.ifs (.bin .lt (.var 1) (.dat (.int 0))) (.cons (.set 2 (.bin .sub (.dat (.int 0)) (.var 2))) .nil) .nil) (.cons (.ret (.tup (.cons (.bin .fdiv (.var 0) (.var 2)) (.cons (.bin .fdiv (.var 1) (.var 2)) .nil)))) .nil)))
def fe_lowest : FE := fun _ _ _ _ => False
def F_lowest : List SV → KA → KX → Prop := runF fe_lowest 2 3 b_lowest
abbrev n_plus : List Str := ["f", "g"]
def b_plus : Sm := (.cons (.ifs (.band (.bin .eq (.bin .idx (.var 0) (.dat (.int 1))) (.dat (.int 1))) (.bin .eq (.bin .idx (.var 1) (.dat (.int 1))) (.dat (.int 1)))) (.cons (.ret (.tup (.cons (.bin .add (.bin .idx (.var 0) (.dat (.int 0))) (.bin .idx (.var 1) (.dat (.int 0)))) (.cons (.dat (.int 1)) .nil)))) .nil) .nil) (.cons (.ret (.call 1 [0, 1] (.cons (.bin .add (.bin .mul (.bin .idx (.var 0) (.dat (.int 0))) (.bin .idx (.var 1) (.dat (.int 1)))) (.bin .mul (.bin .idx (.var 1) (.dat (.int 0))) (.bin .idx (.var 0) (.dat (.int 1))))) (.cons (.bin .mul (.bin .idx (.var 0) (.dat (.int 1))) (.bin .idx (.var 1) (.dat (.int 1)))) .nil)) .nil)) .nil))
def fe_plus : FE := fun f => match f with
  | 1 => F_lowest
  | _ => fun _ _ _ => False
def F_plus : List SV → KA → KX → Prop := runF fe_plus 2 2 b_plus
abbrev n_times : List Str := ["f", "g"]
def b_times : Sm := (.cons (.ifs (.band (.bin .eq (.bin .idx (.var 0) (.dat (.int 1))) (.dat (.int 1))) (.bin .eq (.bin .idx (.var 1) (.dat (.int 1))) (.dat (.int 1)))) (.cons (.ret (.tup (.cons (.bin .mul (.bin .idx (.var 0) (.dat (.int 0))) (.bin .idx (.var 1) (.dat (.int 0)))) (.cons (.dat (.int 1)) .nil)))) .nil) .nil) (.cons (.ret (.call 1 [0, 1] (.cons (.bin .mul (.bin .idx (.var 0) (.dat (.int 0))) (.bin .idx (.var 1) (.dat (.int 0)))) (.cons (.bin .mul (.bin .idx (.var 0) (.dat (.int 1))) (.bin .idx (.var 1) (.dat (.int 1)))) .nil)) .nil)) .nil))
def fe_times : FE := fun f => match f with
  | 1 => F_lowest
  | _ => fun _ _ _ => False
def F_times : List SV → KA → KX → Prop := runF fe_times 2 2 b_times
abbrev n_trimmed : List Str := ["factors", "size"]
def b_trimmed : Sm := (.cons (.set 1 (.un .len (.var 0))) (.cons (.whl (.band (.bin .gt (.var 1) (.dat (.int 0))) (.bin .eq (.bin .idx (.var 0) (.bin .sub (.var 1) (.dat (.int 1)))) (.dat (.tuple [(.int 0), (.int 1)])))) (.cons (.set 1 (.bin .sub (.var 1) (.dat (.int 1)))) .nil)) (.cons (.ret (.un .tuple (.slc (.var 0) .no (.var 1)))) .nil)))
def fe_trimmed : FE := fun _ _ _ _ => False
def F_trimmed : List SV → KA → KX → Prop := runF fe_trimmed 1 2 b_trimmed
abbrev n_at : List Str := ["p", "f", "value", "factor"]
def b_at : Sm := (.cons (.set 2 (.dat (.tuple [(.int 0), (.int 1)]))) (.cons (.loop (.nm 3) (.rev (.var 0)) (.cons (.set 2 (.call 2 [0, 1] (.cons (.call 3 [0, 1] (.cons (.var 2) (.cons (.var 1) .nil)) .nil) (.cons (.var 3) .nil)) .nil)) .nil)) (.cons (.ret (.var 2)) .nil)))
def fe_at : FE := fun f => match f with
  | 2 => F_plus
  | 3 => F_times
  | _ => fun _ _ _ => False
def F_at : List SV → KA → KX → Prop := runF fe_at 2 4 b_at
abbrev n_added : List Str := ["p", "q", "found", "shorter", "longer", "one", "other"]
def b_added : Sm := (.cons (.unp [3, 4] (.ife (.bin .lt (.un .len (.var 0)) (.un .len (.var 1))) (.tup (.cons (.var 0) (.cons (.var 1) .nil))) (.tup (.cons (.var 1) (.cons (.var 0) .nil))))) (.cons (.set 2 (.cmp [5, 6] (.call 2 [0, 1] (.cons (.var 5) (.cons (.var 6) .nil)) .nil) (.tp [5, 6]) (.zip2 (.var 3) (.var 4)) .no)) (.cons (.frz 2) (.cons (.ret (.call 4 [0] (.cons (.bin .add (.var 2) (.un .list (.slc (.var 4) (.un .len (.var 3)) .no))) .nil) .nil)) .nil))))
def fe_added : FE := fun f => match f with
  | 2 => F_plus
  | 4 => F_trimmed
  | _ => fun _ _ _ => False
def F_added : List SV → KA → KX → Prop := runF fe_added 2 7 b_added
abbrev n_multiplied : List Str := ["p", "q", "found", "power", "one", "further", "other"]
def b_multiplied : Sm := (.cons (.set 2 (.bin .mul (.lst (.cons (.dat (.tuple [(.int 0), (.int 1)])) .nil)) (.fn2 .max (.dat (.int 0)) (.bin .sub (.bin .add (.un .len (.var 0)) (.un .len (.var 1))) (.dat (.int 1)))))) (.cons (.loop (.tp [3, 4]) (.enu (.var 0)) (.cons (.loop (.tp [5, 6]) (.enu (.var 1)) (.cons (.put 2 (.bin .add (.var 3) (.var 5)) (.call 2 [0, 1] (.cons (.bin .idx (.var 2) (.bin .add (.var 3) (.var 5))) (.cons (.call 3 [0, 1] (.cons (.var 4) (.cons (.var 6) .nil)) .nil) .nil)) .nil)) .nil)) .nil)) (.cons (.ret (.call 4 [0] (.cons (.var 2) .nil) .nil)) .nil)))
def fe_multiplied : FE := fun f => match f with
  | 2 => F_plus
  | 3 => F_times
  | 4 => F_trimmed
  | _ => fun _ _ _ => False
def F_multiplied : List SV → KA → KX → Prop := runF fe_multiplied 2 7 b_multiplied
abbrev n_scaled : List Str := ["p", "f", "factor"]
def b_scaled : Sm := (.cons (.ret (.call 4 [0] (.cons (.cmp [2] (.call 3 [0, 1] (.cons (.var 2) (.cons (.var 1) .nil)) .nil) (.nm 2) (.var 0) .no) .nil) .nil)) .nil)
def fe_scaled : FE := fun f => match f with
  | 4 => F_trimmed
  | 3 => F_times
  | _ => fun _ _ _ => False
def F_scaled : List SV → KA → KX → Prop := runF fe_scaled 2 3 b_scaled
abbrev n_slope_of : List Str := ["p", "power", "factor"]
def b_slope_of : Sm := (.cons (.ret (.un .tuple (.cmp [1, 2] (.call 3 [0, 1] (.cons (.var 2) (.cons (.tup (.cons (.var 1) (.cons (.dat (.int 1)) .nil))) .nil)) .nil) (.tp [1, 2]) (.enu (.var 0)) (.bin .gt (.var 1) (.dat (.int 0)))))) .nil)
def fe_slope_of : FE := fun f => match f with
  | 3 => F_times
  | _ => fun _ _ _ => False
def F_slope_of : List SV → KA → KX → Prop := runF fe_slope_of 1 3 b_slope_of
abbrev n_heap_of : List Str := ["p", "power", "factor"]
def b_heap_of : Sm := (.cons (.ifs (.bin .eq (.var 0) (.tup .nil)) (.cons (.ret (.tup .nil)) .nil) .nil) (.cons (.ret (.bin .add (.tup (.cons (.dat (.tuple [(.int 0), (.int 1)])) .nil)) (.un .tuple (.cmp [1, 2] (.call 3 [0, 1] (.cons (.var 2) (.cons (.tup (.cons (.dat (.int 1)) (.cons (.bin .add (.var 1) (.dat (.int 1))) .nil))) .nil)) .nil) (.tp [1, 2]) (.enu (.var 0)) .no)))) .nil))
def fe_heap_of : FE := fun f => match f with
  | 3 => F_times
  | _ => fun _ _ _ => False
def F_heap_of : List SV → KA → KX → Prop := runF fe_heap_of 1 3 b_heap_of
abbrev n_shifted : List Str := ["p", "f", "found", "first", "power"]
def b_shifted : Sm := (.cons (.set 2 (.un .list (.var 0))) (.cons (.loop (.nm 3) (.rng1 (.bin .sub (.un .len (.var 2)) (.dat (.int 1)))) (.cons (.loop (.nm 4) (.rng3 (.bin .sub (.un .len (.var 2)) (.dat (.int 2))) (.bin .sub (.var 3) (.dat (.int 1))) (.un .neg (.dat (.int 1)))) (.cons (.put 2 (.var 4) (.call 2 [0, 1] (.cons (.bin .idx (.var 2) (.var 4)) (.cons (.call 3 [0, 1] (.cons (.bin .idx (.var 2) (.bin .add (.var 4) (.dat (.int 1)))) (.cons (.var 1) .nil)) .nil) .nil)) .nil)) .nil)) .nil)) (.cons (.ret (.un .tuple (.var 2))) .nil)))
def fe_shifted : FE := fun f => match f with
  | 2 => F_plus
  | 3 => F_times
  | _ => fun _ _ _ => False
def F_shifted : List SV → KA → KX → Prop := runF fe_shifted 2 5 b_shifted
abbrev n_stretched : List Str := ["p", "f", "factor", "found", "power"]
def b_stretched : Sm := (.cons (.par [3, 4] (.cons (.lst .nil) (.cons (.dat (.tuple [(.int 1), (.int 1)])) .nil))) (.cons (.loop (.nm 2) (.var 0) (.cons (.app 3 (.call 3 [0, 1] (.cons (.var 2) (.cons (.var 4) .nil)) .nil)) (.cons (.set 4 (.call 3 [0, 1] (.cons (.var 4) (.cons (.var 1) .nil)) .nil)) .nil))) (.cons (.ret (.call 4 [0] (.cons (.var 3) .nil) .nil)) .nil)))
def fe_stretched : FE := fun f => match f with
  | 3 => F_times
  | 4 => F_trimmed
  | _ => fun _ _ _ => False
def F_stretched : List SV → KA → KX → Prop := runF fe_stretched 2 5 b_stretched
end Pg
end
section
/-! Un: fractions: the program's pairs and Rat. -/
namespace Un
open PySem Pg
def Fr (q : Rat) : PyData := .tuple [.int q.num, .int q.den]
/-- both parts below 2 ^ b -/
def Bd (b : Nat) (q : Rat) : Prop := q.num.natAbs < 2 ^ b ∧ q.den < 2 ^ b
theorem Fr.inj {q r : Rat} (h : Fr q = Fr r) : q = r := by
  unfold Fr at h
  rw [PyData.tuple.injEq, List.cons.injEq, List.cons.injEq, PyData.int.injEq, PyData.int.injEq] at h
  exact Rat.ext h.1 (by omega)
theorem Bd.mono {b c : Nat} {q : Rat} (h : Bd b q) (hc : b ≤ c) : Bd c q := ⟨Nat.lt_of_lt_of_le h.1 (Nat.pow_le_pow_right (by decide) hc), Nat.lt_of_lt_of_le h.2 (Nat.pow_le_pow_right (by decide) hc)⟩
theorem log_lt {n b : Nat} (h : n < 2 ^ b) (hb : 0 < b) : n.log2 < b := by
  by_cases h0 : n = 0
  · subst h0
    simpa using hb
  · exact (Nat.log2_lt h0).mpr h
theorem mul_ok {i j : Int} {a b : Nat} (hi : i.natAbs < 2 ^ a) (hj : j.natAbs < 2 ^ b) (h : a + b < 900000) : MulOk i j := by
  refine .inr (.inr ?_)
  have h1 : i.natAbs < 2 ^ (a + 1) := Nat.lt_of_lt_of_le hi (Nat.pow_le_pow_right (by decide) (by omega))
  have h2 : j.natAbs < 2 ^ (b + 1) := Nat.lt_of_lt_of_le hj (Nat.pow_le_pow_right (by decide) (by omega))
  have := log_lt h1 (by omega)
  have := log_lt h2 (by omega)
  omega
theorem div_ok {j : Int} {b : Nat} (h0 : j ≠ 0) (hj : j.natAbs < 2 ^ b) (h : b < 9000) : DivOk j := by
  refine ⟨h0, ?_⟩
  have h1 : j.natAbs < 2 ^ (b + 1) := Nat.lt_of_lt_of_le hj (Nat.pow_le_pow_right (by decide) (by omega))
  have := log_lt h1 (by omega)
  omega
theorem fdiv_exact {a g : Int} (h : g ∣ a) : a.fdiv g = a / g := by
  rw [Int.fdiv_eq_ediv_of_dvd h]
/-- the divisor with the sign of the bottom -/
theorem low_parts (t b : Int) (hb : b ≠ 0) (g : Int) (hg : g = if b < 0 then -(Nat.gcd t.natAbs b.natAbs : Int) else (Nat.gcd t.natAbs b.natAbs : Int)) :
    t.fdiv g = (Rat.divInt t b).num ∧ b.fdiv g = ((Rat.divInt t b).den : Int) := by
  have hp : 0 < Nat.gcd t.natAbs b.natAbs := Nat.gcd_pos_of_pos_right _ (by omega)
  have e : b.gcd t = Nat.gcd t.natAbs b.natAbs := by
    show Nat.gcd b.natAbs t.natAbs = _
    rw [Nat.gcd_comm]
  have d1 : (Nat.gcd t.natAbs b.natAbs : Int) ∣ t := Int.ofNat_dvd_left.mpr (Nat.gcd_dvd_left _ _)
  have d2 : (Nat.gcd t.natAbs b.natAbs : Int) ∣ b := Int.ofNat_dvd_left.mpr (Nat.gcd_dvd_right _ _)
  have d2' : Nat.gcd t.natAbs b.natAbs ∣ b.natAbs := Nat.gcd_dvd_right _ _
  rw [Rat.num_divInt, Rat.den_divInt, if_neg hb, e]
  generalize hG : Nat.gcd t.natAbs b.natAbs = G at *
  by_cases hn : b < 0
  · rw [if_pos hn] at hg
    subst hg
    have s : b.sign = -1 := Int.sign_eq_neg_one_of_neg hn
    rw [fdiv_exact (Int.neg_dvd.mpr d1), fdiv_exact (Int.neg_dvd.mpr d2), s, Int.ediv_neg, Int.ediv_neg]
    constructor
    · rw [Int.neg_mul, Int.one_mul, Int.neg_ediv_of_dvd d1]
    · rw [← Int.neg_ediv_of_dvd d2, show -b = (b.natAbs : Int) by omega]
      exact (Int.natCast_ediv _ _).symm
  · rw [if_neg hn] at hg
    subst hg
    have s : b.sign = 1 := Int.sign_eq_one_of_pos (by omega)
    rw [fdiv_exact d1, fdiv_exact d2, s, Int.one_mul]
    refine ⟨rfl, ?_⟩
    conv => lhs; rw [show b = (b.natAbs : Int) by omega]
    exact (Int.natCast_ediv _ _).symm
theorem low_bd {t b : Int} {m : Nat} (h1 : t.natAbs < 2 ^ m) (h2 : b.natAbs < 2 ^ m) (hb : b ≠ 0) : Bd m (Rat.divInt t b) := by
  have hp : 0 < Nat.gcd t.natAbs b.natAbs := Nat.gcd_pos_of_pos_right _ (by omega)
  have e : b.gcd t = Nat.gcd t.natAbs b.natAbs := by
    show Nat.gcd b.natAbs t.natAbs = _
    rw [Nat.gcd_comm]
  constructor
  · rw [Rat.num_divInt, e]
    refine Nat.lt_of_le_of_lt (Int.natAbs_ediv_le_natAbs _ _) ?_
    rw [Int.natAbs_mul]
    have : b.sign.natAbs = 1 := by rw [Int.natAbs_sign_of_ne_zero hb]
    rw [this, Nat.one_mul]
    exact h1
  · rw [Rat.den_divInt, if_neg hb]
    exact Nat.lt_of_le_of_lt (Nat.div_le_self _ _) h2
theorem gcd_lt {t b : Int} {m : Nat} (h2 : b.natAbs < 2 ^ m) (hb : b ≠ 0) : Nat.gcd t.natAbs b.natAbs < 2 ^ m := Nat.lt_of_le_of_lt (Nat.gcd_le_right _ (by omega)) h2
theorem rat_add (q r : Rat) : q + r = Rat.divInt (q.num * r.den + r.num * q.den) ((q.den : Int) * r.den) := by
  rw [Rat.add_def', ← Rat.divInt_ofNat]
  rfl
theorem rat_mul (q r : Rat) : q * r = Rat.divInt (q.num * r.num) ((q.den : Int) * r.den) := by
  rw [Rat.mul_def', ← Rat.divInt_ofNat]
  rfl
theorem den_ne (q : Rat) : (q.den : Int) ≠ 0 := by
  have := q.den_nz
  omega
theorem den_mul_ne (q r : Rat) : (q.den : Int) * r.den ≠ 0 := Int.mul_ne_zero (den_ne q) (den_ne r)
theorem mul_lt {i j : Int} {a b : Nat} (hi : i.natAbs < 2 ^ a) (hj : j.natAbs < 2 ^ b) : (i * j).natAbs < 2 ^ (a + b) := by
  rw [Int.natAbs_mul, Nat.pow_add]
  exact Nat.mul_lt_mul'' hi hj
theorem add_lt {i j : Int} {a b : Nat} (hi : i.natAbs < 2 ^ a) (hj : j.natAbs < 2 ^ a) : (i + j).natAbs < 2 ^ (a + 1) := by
  rw [Nat.pow_succ]
  omega
theorem Bd.add {q r : Rat} {a b : Nat} (hq : Bd a q) (hr : Bd b r) : Bd (a + b + 1) (q + r) := by
  rw [rat_add]
  refine low_bd ?_ ?_ (den_mul_ne q r)
  · refine add_lt (a := a + b) (b := 0) (mul_lt hq.1 (by simpa using hr.2)) ?_
    rw [Nat.add_comm a b]
    exact mul_lt hr.1 (by simpa using hq.2)
  · exact Nat.lt_of_lt_of_le (mul_lt (i := q.den) (j := r.den) (by simpa using hq.2) (by simpa using hr.2)) (Nat.pow_le_pow_right (by decide) (by omega))
theorem Bd.mul {q r : Rat} {a b : Nat} (hq : Bd a q) (hr : Bd b r) : Bd (a + b) (q * r) := by
  rw [rat_mul]
  exact low_bd (mul_lt hq.1 hr.1) (mul_lt (i := q.den) (j := r.den) (by simpa using hq.2) (by simpa using hr.2)) (den_mul_ne q r)
theorem Bd.dn {q : Rat} {a : Nat} (h : Bd a q) : (q.den : Int).natAbs < 2 ^ a := by simpa using h.2

/-! ### the program's fractions -/
section
variable {k : KA} {x : KX}
theorem lowest_ok {t b : Int} {m : Nat} (hb : b ≠ 0) (hm : b.natAbs < 2 ^ m) (h9 : m < 9000) (hk : k (.d (Fr (Rat.divInt t b)))) : F_lowest [.d (.int t), .d (.int b)] k x := by
  simp [F_lowest, runF, b_lowest]
  have hp : 0 < Nat.gcd t.natAbs b.natAbs := Nat.gcd_pos_of_pos_right _ (by omega)
  have hl := gcd_lt (t := t) hm hb
  have hq := low_parts t b hb _ rfl
  unfold Fr at hk
  have e : b3 .gcd t b = (Nat.gcd t.natAbs b.natAbs : Int) := rfl
  by_cases hn : b < 0
  · rw [if_pos hn] at hq ⊢
    rw [e, hq.1, hq.2]
    exact ⟨div_ok (by omega) (by simpa using hl) h9, by decide, hk⟩
  · rw [if_neg hn] at hq ⊢
    rw [e, hq.1, hq.2]
    exact ⟨div_ok (by omega) (by simpa using hl) h9, by decide, hk⟩
theorem plus_ok {q r : Rat} {a b : Nat} (hq : Bd a q) (hr : Bd b r) (h : a + b < 8990) (hk : k (.d (Fr (q + r)))) : F_plus [.d (Fr q), .d (Fr r)] k x := by
  have main : MulOk q.num r.den ∧ MulOk r.num q.den ∧ MulOk q.den r.den ∧ F_lowest [.d (.int (q.num * r.den + r.num * q.den)), .d (.int ((q.den : Int) * r.den))] (fun a => leaveW a k) x :=
    ⟨mul_ok hq.1 hr.dn (by omega), mul_ok hr.1 hq.dn (by omega), mul_ok hq.dn hr.dn (by omega), lowest_ok (m := a + b) (den_mul_ne q r) (mul_lt hq.dn hr.dn) (by omega) (by rw [← rat_add]; exact hk)⟩
  simp [F_plus, runF, b_plus, fe_plus, Fr]
  by_cases h1 : (q.den : Int) = 1
  · by_cases h2 : (r.den : Int) = 1
    · have e1 : q.den = 1 := by omega
      have e2 : r.den = 1 := by omega
      have e : q + r = Rat.divInt (q.num + r.num) 1 := by
        rw [rat_add, e1, e2]
        simp
      have en : (q + r).num = q.num + r.num := by
        rw [e, Rat.num_divInt]
        simp
      have ed : (q + r).den = 1 := by
        rw [e, Rat.den_divInt]
        simp
      unfold Fr at hk
      rw [en, ed] at hk
      rw [if_pos h1, if_pos h2]
      exact ⟨by decide, hk⟩
    · rw [if_pos h1, if_neg h2]
      exact main
  · rw [if_neg h1]
    exact main
theorem times_ok {q r : Rat} {a b : Nat} (hq : Bd a q) (hr : Bd b r) (h : a + b < 8990) (hk : k (.d (Fr (q * r)))) : F_times [.d (Fr q), .d (Fr r)] k x := by
  have main : MulOk q.num r.num ∧ MulOk q.den r.den ∧ F_lowest [.d (.int (q.num * r.num)), .d (.int ((q.den : Int) * r.den))] (fun a => leaveW a k) x :=
    ⟨mul_ok hq.1 hr.1 (by omega), mul_ok hq.dn hr.dn (by omega), lowest_ok (m := a + b) (den_mul_ne q r) (mul_lt hq.dn hr.dn) (by omega) (by rw [← rat_mul]; exact hk)⟩
  simp [F_times, runF, b_times, fe_times, Fr]
  by_cases h1 : (q.den : Int) = 1
  · by_cases h2 : (r.den : Int) = 1
    · have e1 : q.den = 1 := by omega
      have e2 : r.den = 1 := by omega
      have e : q * r = Rat.divInt (q.num * r.num) 1 := by
        rw [rat_mul, e1, e2]
        simp
      have en : (q * r).num = q.num * r.num := by
        rw [e, Rat.num_divInt]
        simp
      have ed : (q * r).den = 1 := by
        rw [e, Rat.den_divInt]
        simp
      unfold Fr at hk
      rw [en, ed] at hk
      rw [if_pos h1, if_pos h2]
      exact ⟨mul_ok hq.1 hr.1 (by omega), by decide, hk⟩
    · rw [if_pos h1, if_neg h2]
      exact main
  · rw [if_neg h1]
    exact main
end
end Un
end
section
/-! Un: polynomials: the program's tuples of fractions and lists of Rat. -/
namespace Un
open PySem Pg
/-! ### loops, comprehensions -/
theorem loop_inv {tg : Tg} {f : List SV → KF → Prop} (I : Nat → List SV → Prop) : ∀ {xs : List PyData} {i : Nat} {ρ : List SV} {k : KF}, I i ρ →
    (∀ (j : Nat) (x : PyData) (ρ : List SV), xs[j]? = some x → I (i + j) ρ → ∃ ρ1, tgt tg x ρ = some ρ1 ∧ ∀ kf : KF, (∀ ρ2, I (i + j + 1) ρ2 → kf (.nx ρ2)) → f ρ1 kf) → (∀ ρ, I (i + xs.length) ρ → k (.nx ρ)) → loopW tg f xs ρ k
  | [], i, ρ, k, h0, _, hk => hk ρ h0
  | x :: xs, i, ρ, k, h0, hs, hk => by
    obtain ⟨ρ1, h1, h2⟩ := hs 0 x ρ rfl h0
    refine ⟨ρ1, h1, h2 _ fun ρ2 h3 => ?_⟩
    show loopW tg f xs ρ2 k
    refine loop_inv I (i := i + 1) h3 (fun j y ρ hy hi => ?_) fun ρ hi => hk ρ (by rw [List.length_cons]; rw [show i + (xs.length + 1) = i + 1 + xs.length by omega]; exact hi)
    obtain ⟨ρ3, g1, g2⟩ := hs (j + 1) y ρ (by simpa using hy) (by rw [show i + (j + 1) = i + 1 + j by omega]; exact hi)
    exact ⟨ρ3, g1, fun kf h => g2 kf fun ρ2 q => h ρ2 (by rw [show i + 1 + j + 1 = i + (j + 1) + 1 by omega]; exact q)⟩
theorem cmp_map {tg : Tg} {e : List SV → KA → Prop} {ρ : List SV} : ∀ {xs ys acc : List PyData} {k : List PyData → Prop}, xs.length = ys.length →
    (∀ (i : Nat) x y, xs[i]? = some x → ys[i]? = some y → ∃ ρ1, tgt tg x ρ = some ρ1 ∧ ∀ ka : KA, ka (.d y) → e ρ1 ka) → acc.length + xs.length ≤ sizeLine → k (acc ++ ys) → cmpW tg none e ρ xs acc k
  | [], [], acc, k, _, _, _, hk => by rw [List.append_nil] at hk; exact hk
  | [], _ :: _, _, _, h, _, _, _ => nomatch h
  | _ :: _, [], _, _, h, _, _, _ => nomatch h
  | x :: xs, y :: ys, acc, k, hl, hs, hz, hk => by
    obtain ⟨ρ1, h1, h2⟩ := hs 0 x y rfl rfl
    refine ⟨ρ1, h1, h2 _ ⟨y, rfl, by rw [List.length_cons] at hz; omega, ?_⟩⟩
    refine cmp_map (by simpa using hl) (fun i a b ha hb => hs (i + 1) a b (by simpa using ha) (by simpa using hb)) ?_ (by rw [List.append_assoc]; exact hk)
    rw [List.length_append]
    rw [List.length_cons] at hz
    simp only [List.length_cons, List.length_nil]
    omega
theorem cmp_opt {tg : Tg} {t : List SV → (Bool → Prop) → Prop} {e : List SV → KA → Prop} {ρ : List SV} : ∀ {xs : List PyData} {ys : List (Option PyData)} {acc : List PyData} {k : List PyData → Prop}, xs.length = ys.length →
    (∀ (i : Nat) x (y : Option PyData), xs[i]? = some x → ys[i]? = some y → ∃ ρ1, tgt tg x ρ = some ρ1 ∧ (∀ kt : Bool → Prop, kt y.isSome → t ρ1 kt) ∧ ∀ z, y = some z → ∀ ka : KA, ka (.d z) → e ρ1 ka) →
    acc.length + xs.length ≤ sizeLine → k (acc ++ ys.filterMap id) → cmpW tg (some t) e ρ xs acc k
  | [], [], acc, k, _, _, _, hk => by rw [List.filterMap_nil, List.append_nil] at hk; exact hk
  | [], _ :: _, _, _, h, _, _, _ => nomatch h
  | _ :: _, [], _, _, h, _, _, _ => nomatch h
  | x :: xs, y :: ys, acc, k, hl, hs, hz, hk => by
    obtain ⟨ρ1, h1, h2, h3⟩ := hs 0 x y rfl rfl
    rw [List.length_cons] at hz
    refine ⟨ρ1, h1, h2 _ ?_⟩
    cases y with
    | none =>
      rw [if_neg (by decide)]
      exact cmp_opt (by simpa using hl) (fun i a b ha hb => hs (i + 1) a b (by simpa using ha) (by simpa using hb)) (by omega) (by simpa using hk)
    | some z =>
      rw [show (some z).isSome = true from rfl, if_pos rfl]
      refine h3 z rfl _ ⟨z, rfl, by omega, ?_⟩
      refine cmp_opt (by simpa using hl) (fun i a b ha hb => hs (i + 1) a b (by simpa using ha) (by simpa using hb)) ?_ (by rw [List.append_assoc]; simpa using hk)
      rw [List.length_append]
      simp only [List.length_cons, List.length_nil]
      omega
theorem whl_step {c : List SV → (Bool → Prop) → Prop} {f : List SV → KF → Prop} {n : Nat} {ρ : List SV} {k : KF} : whlW c f (n + 1) ρ k = c ρ fun t => if t = true then f ρ (fun fl => match fl with
    | .nx ρ2 => whlW c f n ρ2 k
    | .ct ρ2 => whlW c f n ρ2 k
    | .bk ρ2 => k (.nx ρ2)
    | .rt a => k (.rt a)) else k (.nx ρ) := rfl

/-! ### fractions among data -/
theorem Fr0 : Fr 0 = .tuple [.int 0, .int 1] := rfl
theorem Fr1 : Fr 1 = .tuple [.int 1, .int 1] := rfl
theorem shp_Fr (q : Rat) : shp (Fr q) := by simp [Fr, shp, SeqAt.shaped, PyData.canLay0, PyData.canLayAll0, PyData.depth, PyData.depthAll]
theorem eqv_Fr (q r : Rat) : PyData.eqv (Fr q) (Fr r) = decide (q = r) := by
  have e : PyData.eqv (Fr q) (Fr r) = (q.num == r.num && ((q.den : Int) == (r.den : Int) && true)) := by
    unfold Fr
    simp [PyData.eqv, PyData.eqvAll]
  rw [e]
  by_cases h : q = r
  · subst h
    simp
  · simp only [h, decide_false, Bool.and_true]
    by_cases hn : q.num = r.num
    · have hd : q.den ≠ r.den := fun hd => h (Rat.ext hn hd)
      have : ¬ ((q.den : Int) = r.den) := by omega
      simp [this]
    · simp [hn]
def PL (l : List Rat) : List PyData := l.map Fr
def PT (l : List Rat) : PyData := .tuple (PL l)
def BdL (b : Nat) (l : List Rat) : Prop := ∀ q ∈ l, Bd b q
theorem PL_len (l : List Rat) : (PL l).length = l.length := List.length_map ..
theorem PL_get {l : List Rat} {i : Nat} {x : PyData} (h : (PL l)[i]? = some x) : ∃ q, l[i]? = some q ∧ x = Fr q := by
  unfold PL at h
  rw [List.getElem?_map] at h
  cases e : l[i]? with
  | none => rw [e] at h; cases h
  | some q => rw [e] at h; exact ⟨q, rfl, (Option.some.inj h).symm⟩
theorem PL_at {l : List Rat} {i : Nat} {q : Rat} (h : l[i]? = some q) : (PL l)[i]? = some (Fr q) := by
  unfold PL
  rw [List.getElem?_map, h] <;> rfl
theorem at_nat {α : Type} {xs : List α} {i : Nat} {v : α} (h : xs[i]? = some v) : atIx xs (i : Int) = some v := by
  have hi : i < xs.length := (List.getElem?_eq_some_iff.mp h).1
  have h2 : (i : Int) < xs.length := by omega
  simp [atIx, L2.atI, L2.ixN, h2, h]
section
variable {k : KA} {x : KX}
theorem idx_l {xs : List PyData} {i : Nat} {v : PyData} (h : xs[i]? = some v) (hk : k (.d v)) : w2 .idx (.d (.list xs)) (.d (.int i)) k := ⟨_, _, rfl, rfl, v, at_nat h, hk⟩
theorem idx_t {xs : List PyData} {i : Nat} {v : PyData} (h : xs[i]? = some v) (hk : k (.d v)) : w2 .idx (.d (.tuple xs)) (.d (.int i)) k := ⟨_, _, rfl, rfl, v, at_nat h, hk⟩
theorem idx_b {xs : List PyData} {i : Nat} {v : PyData} (h : xs[i]? = some v) (hk : k (.d v)) : w2 .idx (.bor xs) (.d (.int i)) k := ⟨_, _, rfl, rfl, v, at_nat h, hk⟩
@[simp] theorem len_l {xs : List PyData} : w1 .len (.d (.list xs)) k ↔ k (.d (.int xs.length)) := ⟨fun ⟨_, h1, h⟩ => by cases h1; exact h, fun h => ⟨_, rfl, h⟩⟩
@[simp] theorem len_t {xs : List PyData} : w1 .len (.d (.tuple xs)) k ↔ k (.d (.int xs.length)) := ⟨fun ⟨_, h1, h⟩ => by cases h1; exact h, fun h => ⟨_, rfl, h⟩⟩
@[simp] theorem len_b {xs : List PyData} : w1 .len (.bor xs) k ↔ k (.d (.int xs.length)) := ⟨fun ⟨_, h1, h⟩ => by cases h1; exact h, fun h => ⟨_, rfl, h⟩⟩
@[simp] theorem tup_n {xs : List PyData} : w1 .tuple (.new xs) k ↔ k (.d (.tuple xs)) := ⟨fun ⟨_, h1, h⟩ => by cases h1; exact h, fun h => ⟨_, rfl, h⟩⟩
@[simp] theorem tup_b {xs : List PyData} : w1 .tuple (.bor xs) k ↔ k (.d (.tuple xs)) := ⟨fun ⟨_, h1, h⟩ => by cases h1; exact h, fun h => ⟨_, rfl, h⟩⟩
@[simp] theorem tup_d {xs : List PyData} : w1 .tuple (.d (.list xs)) k ↔ k (.d (.tuple xs)) := ⟨fun ⟨_, h1, h⟩ => by cases h1; exact h, fun h => ⟨_, rfl, h⟩⟩
@[simp] theorem lst_t {xs : List PyData} : w1 .list (.d (.tuple xs)) k ↔ k (.new xs) := ⟨fun ⟨_, h1, h⟩ => by cases h1; exact h, fun h => ⟨_, rfl, h⟩⟩
@[simp] theorem slc_l {xs : List PyData} {a b} : slcW (.d (.list xs)) a b k ↔ k (.new (cut xs a b)) := ⟨fun ⟨_, h1, h⟩ => by cases h1; exact h, fun h => ⟨_, rfl, h⟩⟩
@[simp] theorem slc_t {xs : List PyData} {a b} : slcW (.d (.tuple xs)) a b k ↔ k (.d (.tuple (cut xs a b))) := ⟨fun ⟨_, h1, h⟩ => by cases h1; exact h, fun h => ⟨_, rfl, h⟩⟩
@[simp] theorem rev_t {xs : List PyData} : revW (.d (.tuple xs)) k ↔ k (.d (.tuple xs.reverse)) := ⟨fun ⟨_, h1, h⟩ => by cases h1; exact h, fun h => ⟨_, rfl, h⟩⟩
theorem cut_to {α : Type} (xs : List α) (n : Nat) (h : n ≤ xs.length) : cut xs none (some (n : Int)) = xs.take n := by
  unfold cut HT.sIx
  have h1 : ¬ (n : Int) < 0 := by omega
  simp [h1]
theorem cut_from {α : Type} (xs : List α) (n : Nat) (h : n ≤ xs.length) : cut xs (some (n : Int)) none = xs.drop n := by
  unfold cut HT.sIx
  have h1 : ¬ (n : Int) < 0 := by omega
  have h2 : min (n : Int) xs.length = n := by omega
  simp [h1, h2]
  rw [Nat.min_eq_left h, List.take_of_length_le (by simp)]

/-! ### trimmed -/
def trimR : List Rat → List Rat
  | [] => []
  | a :: l => if trimR l = [] ∧ a = 0 then [] else a :: trimR l
theorem trimR_snoc0 : ∀ l : List Rat, trimR (l ++ [0]) = trimR l
  | [] => by simp [trimR]
  | a :: l => by
    rw [List.cons_append, trimR, trimR, trimR_snoc0 l]
theorem trimR_snoc {a : Rat} (ha : a ≠ 0) : ∀ l : List Rat, trimR (l ++ [a]) = l ++ [a]
  | [] => by simp [trimR, ha]
  | b :: l => by
    rw [List.cons_append, trimR, trimR_snoc ha l]
    simp
theorem trim_whl {l : List Rat} (hl : l.length ≤ 1000) {kf : KF} (hk : ∀ s : Nat, s ≤ l.length → l.take s = trimR l → kf (.nx [.d (.list (PL l)), .d (.int s)])) : ∀ s : Nat, s ≤ l.length → trimR (l.take s) = trimR l →
    whlW (ev fe_trimmed x (.band (.bin .gt (.var 1) (.dat (.int 0))) (.bin .eq (.bin .idx (.var 0) (.bin .sub (.var 1) (.dat (.int 1)))) (.dat (.tuple [(.int 0), (.int 1)]))))).t (ex fe_trimmed x (.cons (.set 1 (.bin .sub (.var 1) (.dat (.int 1)))) .nil)) (s + 1) [.d (.list (PL l)), .d (.int s)] kf
  | 0, hs, ht => by
    rw [whl_step]
    simp
    exact hk 0 hs (by simpa [trimR] using ht)
  | s + 1, hs, ht => by
    rw [whl_step]
    have h1 : (0 : Int) < (s : Int) + 1 := by omega
    have e1 : ((s : Int) + 1 - 1) = (s : Int) := by omega
    have hg : l[s]? = some l[s] := List.getElem?_eq_getElem (by omega)
    have et : l.take (s + 1) = l.take s ++ [l[s]] := by rw [List.take_succ, hg] <;> rfl
    simp [h1, e1]
    refine idx_l (PL_at hg) ?_
    refine w2_intro (x := Fr l[s]) (y := Fr 0) ⟨shp_Fr _, shp_Fr _, ?_⟩ rfl rfl
    rw [eqv_Fr]
    simp
    by_cases hz : l[s] = 0
    · rw [if_pos hz]
      refine trim_whl hl hk s (by omega) ?_
      rw [← ht, et, hz, trimR_snoc0]
    · rw [if_neg hz]
      refine hk (s + 1) hs ?_
      rw [← ht, et, trimR_snoc hz]
theorem trimmed_ok {l : List Rat} (hl : l.length ≤ 1000) (hk : k (.d (PT (trimR l)))) : F_trimmed [.d (.list (PL l))] k x := by
  simp [F_trimmed, runF, b_trimmed]
  refine ⟨l.length + 1, ?_⟩
  rw [PL_len]
  refine trim_whl hl (fun s hs hs2 => ?_) l.length (Nat.le_refl _) (by rw [List.take_length])
  simp
  rw [cut_to _ _ (by rw [PL_len]; exact hs)]
  unfold PT at hk
  rw [← hs2] at hk
  unfold PL at hk ⊢
  rwa [List.map_take] at hk
end
end Un
end
section
/-! Un: the program's polynomials, def by def. -/
namespace Un
open PySem Pg
theorem bd0 : Bd 1 0 := ⟨by decide, by decide⟩
theorem bd1 : Bd 1 1 := ⟨by decide, by decide⟩
theorem BdL.get {b : Nat} {l : List Rat} (h : BdL b l) {i : Nat} {q : Rat} (e : l[i]? = some q) : Bd b q := h q (List.mem_of_getElem? e)
theorem BdL.mono {b c : Nat} {l : List Rat} (h : BdL b l) (hc : b ≤ c) : BdL c l := fun q hq => (h q hq).mono hc
theorem BdL.tail {b : Nat} {a : Rat} {l : List Rat} (h : BdL b (a :: l)) : BdL b l := fun q hq => h q (List.mem_cons_of_mem _ hq)
theorem BdL.head {b : Nat} {a : Rat} {l : List Rat} (h : BdL b (a :: l)) : Bd b a := h a (List.mem_cons_self ..)
theorem BdL.sub {b : Nat} {l m : List Rat} (h : BdL b l) (hs : ∀ q ∈ m, q ∈ l) : BdL b m := fun q hq => h q (hs q hq)
def evR : List Rat → Rat → Rat
  | [], _ => 0
  | a :: l, f => evR l f * f + a
theorem evR_bd {a b : Nat} {f : Rat} (hf : Bd b f) : ∀ {l : List Rat}, BdL a l → Bd (l.length * (a + b + 1) + 1) (evR l f)
  | [], _ => bd0.mono (by omega)
  | q :: l, h => by
    have h1 := ((evR_bd hf h.tail).mul hf).add h.head
    refine h1.mono ?_
    rw [List.length_cons, Nat.succ_mul]
    omega
section
variable {k : KA} {x : KX}
theorem at_ok {l : List Rat} {f : Rat} {a b : Nat} (hl : BdL a l) (hf : Bd b f) (hz : (l.length + 1) * (a + b + 1) < 8000) (hk : k (.d (Fr (evR l f)))) : F_at [.d (PT l), .d (Fr f)] k x := by
  simp [F_at, runF, b_at, PT]
  let I : Nat → List SV → Prop := fun i ρ => ∃ u, ρ = [.d (PT l), .d (Fr f), .d (Fr (evR (l.drop (l.length - i)) f)), u]
  refine loop_inv I (i := 0) ⟨.un, by simp [evR, Fr0, PT]⟩ (fun j y ρ hy hI => ?_) fun ρ hI => ?_
  · obtain ⟨u, rfl⟩ := hI
    have hj : j < l.length := by
      have := (List.getElem?_eq_some_iff.mp hy).1
      simpa [PL] using this
    rw [List.getElem?_reverse (by rw [PL_len]; exact hj), PL_len] at hy
    obtain ⟨q, hq, rfl⟩ := PL_get hy
    refine ⟨_, rfl, fun kf h => ?_⟩
    have hd : l.drop (l.length - (0 + j + 1)) = q :: l.drop (l.length - (0 + j)) := by
      have e : l.length - (0 + j + 1) = l.length - 1 - j := by omega
      have e2 : l.length - (0 + j) = (l.length - 1 - j) + 1 := by omega
      rw [e, e2]
      exact (List.drop_eq_getElem?_toList_append).trans (by rw [hq] <;> rfl)
    have hb : BdL a (l.drop (l.length - (0 + j))) := hl.sub fun _ => List.mem_of_mem_drop
    have h1 := evR_bd hf hb
    have hn : (l.drop (l.length - (0 + j))).length + 1 ≤ l.length := by rw [List.length_drop]; omega
    have hm : (l.drop (l.length - (0 + j))).length * (a + b + 1) + (a + b + 1) ≤ l.length * (a + b + 1) := by
      rw [← Nat.succ_mul]
      exact Nat.mul_le_mul_right _ hn
    have hz' : l.length * (a + b + 1) + (a + b + 1) < 8000 := by rw [← Nat.succ_mul]; exact hz
    simp only [Nat.zero_add] at h h1 hn hm hd hb
    simp [fe_at]
    refine times_ok h1 hf (by omega) ?_
    simp
    have ha := hl.get hq
    refine plus_ok (h1.mul hf) ha (by omega) ?_
    simp
    refine h _ ⟨.d (Fr q), ?_⟩
    rw [hd, evR]
  · obtain ⟨u, rfl⟩ := hI
    rw [List.length_reverse, PL_len, Nat.zero_add, Nat.sub_self, List.drop_zero]
    simpa using hk
def scR (l : List Rat) (f : Rat) : List Rat := trimR (l.map (· * f))
theorem PL_map {l : List Rat} {g : Rat → Rat} : PL (l.map g) = l.map fun q => Fr (g q) := by simp [PL, Function.comp_def]
theorem scaled_ok {l : List Rat} {f : Rat} {a b : Nat} (hl : BdL a l) (hf : Bd b f) (hz : a + b < 8000) (hn : l.length ≤ 1000) (hk : k (.d (PT (scR l f)))) : F_scaled [.d (PT l), .d (Fr f)] k x := by
  simp [F_scaled, runF, b_scaled, PT, isNo, wipeS]
  refine cmp_map (ys := PL (l.map (· * f))) (by simp [PL]) (fun i y z hy hz' => ?_) (by rw [PL_len]; simpa using sz _ hn) ?_
  · obtain ⟨q, hq, rfl⟩ := PL_get hy
    obtain ⟨r, hr, rfl⟩ := PL_get hz'
    rw [List.getElem?_map, hq] at hr
    cases hr
    refine ⟨_, rfl, fun ka h => ?_⟩
    simp [fe_scaled]
    exact times_ok (hl.get hq) hf (by omega) h
  · simp [fe_scaled]
    exact trimmed_ok (by simpa using hn) (by simpa [scR] using hk)
theorem enuL_PL : ∀ (l : List Rat) (n i : Nat) (y : PyData), (enuL n (PL l))[i]? = some y → ∃ q, l[i]? = some q ∧ y = .tuple [.int ((n + i : Nat) : Int), Fr q]
  | [], n, i, y, h => by simp [PL, enuL] at h
  | q :: l, n, 0, y, h => by
    simp [PL, enuL] at h
    exact ⟨q, rfl, by simp [← h]⟩
  | q :: l, n, i + 1, y, h => by
    have h' : (enuL (n + 1) (PL l))[i]? = some y := by simpa [PL, enuL] using h
    obtain ⟨r, h1, h2⟩ := enuL_PL l (n + 1) i y h'
    exact ⟨r, by simpa using h1, by rw [h2, show n + 1 + i = n + (i + 1) by omega]⟩
theorem enuL_length : ∀ (xs : List PyData) (n : Nat), (enuL n xs).length = xs.length
  | [], _ => rfl
  | x :: xs, n => by rw [enuL, List.length_cons, List.length_cons, enuL_length xs]
/-- a whole number as a fraction -/
theorem Fr_nat (n : Nat) : Fr (n : Rat) = .tuple [.int n, .int 1] := by
  unfold Fr
  simp
theorem bd_nat {n b : Nat} (h : n < 2 ^ b) (hb : 0 < b) : Bd b (n : Rat) := ⟨by simpa using h, by
  simp
  omega⟩
/-- k * a0, (k + 1) * a1, .. -/
def dz : Nat → List Rat → List Rat
  | _, [] => []
  | n, a :: l => a * (n : Rat) :: dz (n + 1) l
def slR (l : List Rat) : List Rat := dz 1 l.tail
theorem dz_len : ∀ (l : List Rat) (n : Nat), (dz n l).length = l.length
  | [], _ => rfl
  | _ :: l, n => by rw [dz, List.length_cons, List.length_cons, dz_len l]
theorem dz_get : ∀ (l : List Rat) (n i : Nat) (q : Rat), l[i]? = some q → (dz n l)[i]? = some (q * ((n + i : Nat) : Rat))
  | [], _, _, _, h => by simp at h
  | a :: l, n, 0, q, h => by
    simp at h
    subst h
    simp [dz]
  | a :: l, n, i + 1, q, h => by
    have := dz_get l (n + 1) i q (by simpa using h)
    rw [dz, List.getElem?_cons_succ, this, show n + 1 + i = n + (i + 1) by omega]
theorem slope_ok {l : List Rat} {a : Nat} (hl : BdL a l) (hz : a < 7000) (hn : l.length ≤ 1000) (hk : k (.d (PT (slR l)))) : F_slope_of [.d (PT l)] k x := by
  simp [F_slope_of, runF, b_slope_of, PT, isNo, wipeS]
  refine cmp_opt (ys := (match l with | [] => [] | _ :: t => none :: (PL (dz 1 t)).map some)) ?_ (fun i y z hy hz' => ?_) (by rw [enuL_length, PL_len]; simpa using sz _ hn) ?_
  · rw [enuL_length, PL_len]
    cases l with
    | nil => rfl
    | cons q t => simp [PL, dz_len]
  · obtain ⟨q, hq, rfl⟩ := enuL_PL l 0 i y hy
    refine ⟨[.d (.tuple (PL l)), .d (.int i), .d (Fr q)], by simp [tgt, setD], fun kt h => ?_, fun z e ka h => ?_⟩
    · simp
      cases l with
      | nil => simp at hq
      | cons q0 t =>
        cases i with
        | zero =>
          simp at hz'
          subst hz'
          simpa using h
        | succ i =>
          have hz2 : ((PL (dz 1 t)).map some)[i]? = some z := by simpa using hz'
          have : z.isSome = true := by
            rw [List.getElem?_map] at hz2
            cases e : (PL (dz 1 t))[i]? with
            | none => rw [e] at hz2; cases hz2
            | some w => rw [e] at hz2; cases hz2; rfl
          rw [this] at h
          simpa using h
    · subst e
      simp [fe_slope_of]
      cases l with
      | nil => simp at hq
      | cons q0 t =>
        cases i with
        | zero => simp at hz'
        | succ i =>
          have hz2 : ((PL (dz 1 t)).map some)[i]? = some (some z) := by simpa using hz'
          have hq2 : t[i]? = some q := by simpa using hq
          have hi : i < t.length := (List.getElem?_eq_some_iff.mp hq2).1
          have e1 := PL_at (dz_get t 1 i q hq2)
          rw [List.getElem?_map, e1] at hz2
          cases hz2
          rw [show (1 + i : Nat) = i + 1 by omega] at h
          rw [List.length_cons] at hn
          have ha := hl.get hq
          have e2 := Fr_nat (i + 1)
          refine ⟨by decide, ?_⟩
          have g := times_ok (k := ka) (x := noX) ha (bd_nat (n := i + 1) (b := 10) (by omega) (by decide)) (by omega) h
          rw [e2] at g
          simpa using g
  · simp
    unfold PT slR at hk
    cases l with
    | nil => simpa [PL, dz] using hk
    | cons q t => simpa using hk
end
end Un
end
section
/-! Un: more of the program's polynomials. -/
namespace Un
open PySem Pg
theorem PL_lay : ∀ l : List Rat, PyData.canLayAll0 (PL l) = true ∧ PyData.depthAll (PL l) ≤ 1
  | [] => ⟨rfl, by simp [PL, PyData.depthAll]⟩
  | q :: l => by
    obtain ⟨h1, h2⟩ := PL_lay l
    have e : PL (q :: l) = Fr q :: PL l := rfl
    rw [e]
    constructor
    · simp [PyData.canLayAll0, h1, Fr, PyData.canLay0]
    · have d1 : (Fr q).depth = 1 := by simp [Fr, PyData.depth, PyData.depthAll]
      simp only [PyData.depthAll, d1]
      omega
theorem shp_PT (l : List Rat) : shp (PT l) := by
  obtain ⟨h1, h2⟩ := PL_lay l
  simp [shp, SeqAt.shaped, PT, PyData.canLay0, PyData.depth, h1]
  omega
theorem eqvAll_PL : ∀ l m : List Rat, PyData.eqvAll (PL l) (PL m) = decide (l = m)
  | [], [] => by simp [PL, PyData.eqvAll]
  | [], _ :: _ => by simp [PL, PyData.eqvAll]
  | _ :: _, [] => by simp [PL, PyData.eqvAll]
  | a :: l, b :: m => by
    have e : PyData.eqvAll (PL (a :: l)) (PL (b :: m)) = (PyData.eqv (Fr a) (Fr b) && PyData.eqvAll (PL l) (PL m)) := by simp [PL, PyData.eqvAll]
    rw [e, eqv_Fr, eqvAll_PL l m]
    by_cases h1 : a = b <;> by_cases h2 : l = m <;> simp [h1, h2]
theorem eqv_PT (l m : List Rat) : PyData.eqv (PT l) (PT m) = decide (l = m) := by
  have e : PyData.eqv (PT l) (PT m) = PyData.eqvAll (PL l) (PL m) := by simp [PT, PyData.eqv]
  rw [e, eqvAll_PL]
theorem bare_PL : ∀ l : List Rat, bareAll (PL l) = true
  | [] => rfl
  | q :: l => by
    have e : PL (q :: l) = Fr q :: PL l := rfl
    rw [e, bareAll, bare_PL l]
    simp [Fr, bare, bareAll]
theorem bare_PT (l : List Rat) : bare (PT l) = true := by simp [PT, bare, bare_PL]
/-- 1 / (n + 1) -/
def inv1 (n : Nat) : Rat := Rat.divInt 1 ((n : Int) + 1)
theorem inv1_num (n : Nat) : (inv1 n).num = 1 := by
  unfold inv1
  rw [Rat.num_divInt]
  have s : ((n : Int) + 1).sign = 1 := Int.sign_eq_one_of_pos (by omega)
  rw [s, Int.gcd_one_right]
  rfl
theorem inv1_den (n : Nat) : (inv1 n).den = n + 1 := by
  unfold inv1
  rw [Rat.den_divInt, if_neg (by omega), Int.gcd_one_right]
  omega
theorem Fr_inv (n : Nat) : Fr (inv1 n) = .tuple [.int 1, .int ((n : Int) + 1)] := by
  unfold Fr
  rw [inv1_num, inv1_den]
  simp
theorem bd_inv {n b : Nat} (h : n + 1 < 2 ^ b) : Bd b (inv1 n) := ⟨by rw [inv1_num]; show 1 < _; omega, by rw [inv1_den]; exact h⟩
def hz : Nat → List Rat → List Rat
  | _, [] => []
  | n, a :: l => a * inv1 n :: hz (n + 1) l
def hpR : List Rat → List Rat
  | [] => []
  | a :: l => 0 :: hz 0 (a :: l)
theorem hz_len : ∀ (l : List Rat) (n : Nat), (hz n l).length = l.length
  | [], _ => rfl
  | _ :: l, n => by rw [hz, List.length_cons, List.length_cons, hz_len l]
theorem hz_get : ∀ (l : List Rat) (n i : Nat) (q : Rat), l[i]? = some q → (hz n l)[i]? = some (q * inv1 (n + i))
  | [], _, _, _, h => by simp at h
  | a :: l, n, 0, q, h => by
    simp at h
    subst h
    simp [hz]
  | a :: l, n, i + 1, q, h => by
    have := hz_get l (n + 1) i q (by simpa using h)
    rw [hz, List.getElem?_cons_succ, this, show n + 1 + i = n + (i + 1) by omega]
def addL : List Rat → List Rat → List Rat
  | [], q => q
  | a :: p, [] => a :: p
  | a :: p, b :: q => (a + b) :: addL p q
def addR (p q : List Rat) : List Rat := trimR (addL p q)
theorem addL_comm : ∀ p q : List Rat, addL p q = addL q p
  | [], [] => rfl
  | [], _ :: _ => rfl
  | _ :: _, [] => rfl
  | a :: p, b :: q => by rw [addL, addL, addL_comm p q, Rat.add_comm]
theorem addL_zip : ∀ p q : List Rat, p.length ≤ q.length → List.zipWith (· + ·) p q ++ q.drop p.length = addL p q
  | [], q, _ => by simp [addL]
  | a :: p, [], h => by simp at h
  | a :: p, b :: q, h => by
    have := addL_zip p q (by simpa using h)
    simp [addL, this]
theorem zipL_PL : ∀ (p q : List Rat) (i : Nat) (y : PyData), (zipL (PL p) (PL q))[i]? = some y → ∃ a b, p[i]? = some a ∧ q[i]? = some b ∧ y = .tuple [Fr a, Fr b]
  | [], q, i, y, h => by simp [PL, zipL] at h
  | a :: p, [], i, y, h => by simp [PL, zipL] at h
  | a :: p, b :: q, 0, y, h => by
    simp [PL, zipL] at h
    exact ⟨a, b, rfl, rfl, h.symm⟩
  | a :: p, b :: q, i + 1, y, h => by
    have h' : (zipL (PL p) (PL q))[i]? = some y := by simpa [PL, zipL] using h
    obtain ⟨c, d, h1, h2, h3⟩ := zipL_PL p q i y h'
    exact ⟨c, d, by simpa using h1, by simpa using h2, h3⟩
theorem zipL_length : ∀ xs ys : List PyData, (zipL xs ys).length = min xs.length ys.length
  | [], ys => by simp [zipL]
  | x :: xs, [] => by simp [zipL]
  | x :: xs, y :: ys => by rw [zipL, List.length_cons, zipL_length xs ys, List.length_cons, List.length_cons]; omega
section
variable {k : KA} {x : KX}
theorem heap_ok {l : List Rat} {a : Nat} (hl : BdL a l) (hz' : a < 7000) (hn : l.length ≤ 900) (hk : k (.d (PT (hpR l)))) : F_heap_of [.d (PT l)] k x := by
  simp [F_heap_of, runF, b_heap_of]
  refine w2_intro (x := PT l) (y := PT []) ⟨shp_PT _, shp_PT _, ?_⟩ rfl rfl
  rw [eqv_PT]
  simp
  cases l with
  | nil =>
    rw [if_pos rfl]
    simpa [hpR, PT, PL] using hk
  | cons q t =>
    rw [if_neg (by simp)]
    simp [PT, isNo, wipeS]
    refine ⟨by decide, ?_⟩
    refine cmp_map (ys := PL (hz 0 (q :: t))) (by rw [enuL_length, PL_len, PL_len, hz_len]) (fun i y z hy hz'' => ?_) (by rw [enuL_length, PL_len]; simpa using sz _ (by simpa using (show t.length + 1 ≤ 1000 by simp at hn; omega))) ?_
    · obtain ⟨r, hr, rfl⟩ := enuL_PL _ 0 i y hy
      have e1 := PL_at (hz_get _ 0 i r hr)
      rw [e1] at hz''
      cases hz''
      refine ⟨[.d (.tuple (PL (q :: t))), .d (.int i), .d (Fr r)], by simp [tgt, setD], fun ka h => ?_⟩
      simp [fe_heap_of]
      have hi : i < (q :: t).length := (List.getElem?_eq_some_iff.mp hr).1
      have ha := hl.get hr
      have e2 := Fr_inv i
      refine ⟨by decide, ?_⟩
      rw [Nat.zero_add] at h
      have g := times_ok (k := ka) (x := noX) ha (bd_inv (n := i) (b := 10) (by show i + 1 < 1024; omega)) (by omega) h
      rw [e2] at g
      exact g
    · simp
      refine ⟨_, _, rfl, rfl, ?_, ?_⟩
      · rw [PL_len, hz_len]
        exact sz _ (by simp at hn ⊢; omega)
      · simpa [hpR, PT, PL, Fr0] using hk
@[simp] theorem seq2_tt {xs ys : List PyData} {k : List PyData → List PyData → Prop} : seq2W (.d (.tuple xs)) (.d (.tuple ys)) k ↔ k xs ys := ⟨fun ⟨_, _, h1, h2, h⟩ => by cases h1; cases h2; exact h, fun h => ⟨_, _, rfl, rfl, h⟩⟩
theorem cat_ln {xs ys : List PyData} (h : xs.length + ys.length ≤ 1000) (hk : k (.new (xs ++ ys))) : w2 .add (.d (.list xs)) (.new ys) k := ⟨_, _, rfl, rfl, sz _ h, hk⟩
theorem added_ok {p q : List Rat} {a b : Nat} (hp : BdL a p) (hq : BdL b q) (hz : a + b < 8000) (hn : p.length ≤ 400 ∧ q.length ≤ 400) (hk : k (.d (PT (addR p q)))) : F_added [.d (PT p), .d (PT q)] k x := by
  have core : ∀ (s t : List Rat) (c d : Nat), BdL c s → BdL d t → c + d < 8000 → s.length ≤ t.length → t.length ≤ 400 → addR s t = addR p q →
      cmpW (.tp [5, 6]) none (ev fe_added (fun _ _ => False) (.call 2 [0, 1] (.cons (.var 5) (.cons (.var 6) .nil)) .nil)).v [.d (.tuple (PL p)), .d (.tuple (PL q)), .un, .d (.tuple (PL s)), .d (.tuple (PL t)), .un, .un] (zipL (PL s) (PL t)) [] (fun ys =>
        w2 .add (.d (.list ys)) (.new (cut (PL t) (some (s.length : Int)) none)) fun p => callW fe_added x 4 p.isBor [argOf p] fun a => leaveW a k) := fun s t c d hs ht hcd hst htn hst2 => by
    refine cmp_map (ys := PL (List.zipWith (· + ·) s t)) (by rw [zipL_length, PL_len, PL_len, PL_len, List.length_zipWith]) (fun i y z hy hz' => ?_) (by rw [zipL_length, PL_len, PL_len]; simpa using sz _ (by omega)) ?_
    · obtain ⟨a1, b1, h1, h2, rfl⟩ := zipL_PL s t i y hy
      have e1 : (PL (List.zipWith (· + ·) s t))[i]? = some (Fr (a1 + b1)) := PL_at (by rw [List.getElem?_zipWith, h1, h2])
      rw [e1] at hz'
      cases hz'
      refine ⟨[.d (.tuple (PL p)), .d (.tuple (PL q)), .un, .d (.tuple (PL s)), .d (.tuple (PL t)), .d (Fr a1), .d (Fr b1)], by simp [tgt, setD], fun ka h => ?_⟩
      simp [fe_added]
      exact plus_ok (hs.get h1) (ht.get h2) (by omega) h
    · rw [List.nil_append, cut_from _ _ (by rw [PL_len]; exact hst)]
      have e3 : PL (List.zipWith (· + ·) s t) ++ (PL t).drop s.length = PL (addL s t) := by
        rw [← addL_zip s t hst]
        simp [PL]
      have hl3 := congrArg List.length e3
      rw [List.length_append, PL_len] at hl3
      have hzl : (List.zipWith (· + ·) s t).length = s.length := by rw [List.length_zipWith]; omega
      have hal : (addL s t).length = t.length := by
        rw [← addL_zip s t hst, List.length_append, hzl, List.length_drop]
        omega
      refine cat_ln ?_ ?_
      · rw [PL_len, List.length_drop, PL_len, hzl]
        omega
      · rw [e3]
        simp [fe_added]
        exact trimmed_ok (by omega) (by
          unfold addR at hst2
          rw [hst2]
          exact hk)
  simp [F_added, runF, b_added, PT, PL_len, isNo, wipeS, setD]
  by_cases h : p.length < q.length
  · have h' : (p.length : Int) < q.length := by omega
    simp [h, setD]
    refine ⟨by decide, ?_⟩
    exact core p q a b hp hq hz (by omega) hn.2 rfl
  · simp [h, setD]
    refine ⟨by decide, ?_⟩
    exact core q p b a hq hp (by omega) (by omega) hn.1 (by unfold addR; rw [addL_comm])
end
end Un
end
section
/-! Un: stretched, multiplied, shifted. -/
namespace Un
open PySem Pg
def pwR (f : Rat) : Nat → Rat
  | 0 => 1
  | n + 1 => pwR f n * f
theorem pw_bd {f : Rat} {b : Nat} (h : Bd b f) : ∀ n, Bd (n * b + 1) (pwR f n)
  | 0 => bd1.mono (by omega)
  | n + 1 => ((pw_bd h n).mul h).mono (by rw [Nat.succ_mul]; omega)
def stL (f : Rat) : Nat → List Rat → List Rat
  | _, [] => []
  | n, a :: l => a * pwR f n :: stL f (n + 1) l
theorem stL_snoc (f a : Rat) : ∀ (l : List Rat) (n : Nat), stL f n (l ++ [a]) = stL f n l ++ [a * pwR f (n + l.length)]
  | [], n => by simp [stL]
  | c :: l, n => by
    rw [List.cons_append, stL, stL, stL_snoc f a l (n + 1), List.cons_append, List.length_cons, show n + 1 + l.length = n + (l.length + 1) by omega]
def strR (l : List Rat) (f : Rat) : List Rat := trimR (stL f 0 l)
theorem stL_len (f : Rat) : ∀ (l : List Rat) (n : Nat), (stL f n l).length = l.length
  | [], _ => rfl
  | _ :: l, n => by rw [stL, List.length_cons, List.length_cons, stL_len f l]
theorem PL_snoc (l : List Rat) (a : Rat) : PL l ++ [Fr a] = PL (l ++ [a]) := by simp [PL]
section
variable {k : KA} {x : KX}
theorem stretched_ok {l : List Rat} {f : Rat} {a b : Nat} (hl : BdL a l) (hf : Bd b f) (hz : a + (l.length + 1) * b + 2 < 8000) (hn : l.length ≤ 1000) (hk : k (.d (PT (strR l f)))) : F_stretched [.d (PT l), .d (Fr f)] k x := by
  simp [F_stretched, runF, b_stretched, PT]
  let I : Nat → List SV → Prop := fun i ρ => ∃ u, ρ = [.d (PT l), .d (Fr f), u, .own (PL (stL f 0 (l.take i))), .d (Fr (pwR f i))]
  refine loop_inv I (i := 0) ⟨.un, by simp [PT, stL, PL, pwR, Fr1]⟩ (fun j y ρ hy hI => ?_) fun ρ hI => ?_
  · obtain ⟨u, rfl⟩ := hI
    simp only [Nat.zero_add]
    obtain ⟨q, hq, rfl⟩ := PL_get hy
    have hj : j < l.length := (List.getElem?_eq_some_iff.mp hq).1
    have ha := hl.get hq
    have hp := pw_bd hf j
    have hm : j * b + b ≤ (l.length + 1) * b := by
      rw [← Nat.succ_mul]
      exact Nat.mul_le_mul_right _ (by omega)
    refine ⟨_, rfl, fun kf h => ?_⟩
    simp [fe_stretched]
    refine times_ok ha hp (by omega) ?_
    simp
    refine ⟨by rw [PL_len, stL_len, List.length_take]; exact Nat.lt_of_lt_of_le (show _ < 1001 by omega) (by decide), ?_⟩
    refine times_ok hp hf (by omega) ?_
    simp
    refine h _ ⟨.d (Fr q), ?_⟩
    have ht : l.take (j + 1) = l.take j ++ [q] := by rw [List.take_succ, hq] <;> rfl
    rw [ht, stL_snoc, PL_snoc, List.length_take, Nat.zero_add, Nat.min_eq_left (by omega)]
    rfl
  · obtain ⟨u, rfl⟩ := hI
    rw [PL_len, Nat.zero_add, List.take_length]
    simp [fe_stretched]
    exact trimmed_ok (by rw [stL_len]; exact hn) ⟨_, rfl, bare_PT _, by simpa [strR] using hk⟩

/-! ### multiplied -/
def rowR (a : Rat) : Nat → List Rat → List Rat → List Rat
  | _, [], fd => fd
  | n, b :: q, fd => rowR a (n + 1) q (fd.set n (fd.getD n 0 + a * b))
def mulAcc : Nat → List Rat → List Rat → List Rat → List Rat
  | _, [], _, fd => fd
  | n, a :: p, q, fd => mulAcc (n + 1) p q (rowR a n q fd)
def mulR (p q : List Rat) : List Rat := trimR (mulAcc 0 p q (List.replicate (p.length + q.length - 1) 0))
theorem rowR_len (a : Rat) : ∀ (q : List Rat) (n : Nat) (fd : List Rat), (rowR a n q fd).length = fd.length
  | [], _, _ => rfl
  | b :: q, n, fd => by rw [rowR, rowR_len a q, List.length_set]
theorem rowR_snoc (a b : Rat) : ∀ (q : List Rat) (n : Nat) (fd : List Rat), rowR a n (q ++ [b]) fd = (rowR a n q fd).set (n + q.length) ((rowR a n q fd).getD (n + q.length) 0 + a * b)
  | [], n, fd => by simp [rowR]
  | c :: q, n, fd => by
    rw [List.cons_append, rowR, rowR, rowR_snoc a b q (n + 1), List.length_cons, show n + 1 + q.length = n + (q.length + 1) by omega]
theorem rowR_after (a : Rat) : ∀ (q : List Rat) (n m : Nat) (fd : List Rat), n + q.length ≤ m → (rowR a n q fd)[m]? = fd[m]?
  | [], _, _, _, _ => rfl
  | c :: q, n, m, fd, h => by
    rw [rowR, rowR_after a q (n + 1) m _ (by simp at h; omega), List.getElem?_set_ne (by simp at h; omega)]
theorem mulAcc_snoc (a : Rat) (q : List Rat) : ∀ (p : List Rat) (n : Nat) (fd : List Rat), mulAcc n (p ++ [a]) q fd = rowR a (n + p.length) q (mulAcc n p q fd)
  | [], n, fd => by simp [mulAcc]
  | c :: p, n, fd => by
    rw [List.cons_append, mulAcc, mulAcc, mulAcc_snoc a q p (n + 1), List.length_cons, show n + 1 + p.length = n + (p.length + 1) by omega]
theorem mulAcc_len (q : List Rat) : ∀ (p : List Rat) (n : Nat) (fd : List Rat), (mulAcc n p q fd).length = fd.length
  | [], _, _ => rfl
  | a :: p, n, fd => by rw [mulAcc, mulAcc_len q p, rowR_len]
theorem bd_set {c : Nat} {fd : List Rat} {n : Nat} {v : Rat} (h : BdL c fd) (hv : Bd c v) : BdL c (fd.set n v) := fun q hq => by
  rcases List.mem_or_eq_of_mem_set hq with h1 | h1
  · exact h q h1
  · rw [h1]
    exact hv
theorem rowR_bd {a : Rat} {c u v : Nat} (ha : Bd u a) : ∀ {q : List Rat} {n : Nat} {fd : List Rat}, BdL v q → (∀ m x, n ≤ m → fd[m]? = some x → Bd c x) → BdL (c + (u + v) + 1) fd → BdL (c + (u + v) + 1) (rowR a n q fd)
  | [], _, _, _, _, h => h
  | b :: q, n, fd, hq, hc, h => by
    rw [rowR]
    have hv : Bd (c + (u + v) + 1) (fd.getD n 0 + a * b) := by
      cases e : fd[n]? with
      | some x =>
        rw [List.getD_eq_getElem?_getD, e]
        exact (hc n x (Nat.le_refl _) e).add (ha.mul hq.head)
      | none =>
        rw [List.getD_eq_getElem?_getD, e]
        show Bd _ (0 + a * b)
        rw [Rat.zero_add]
        exact (ha.mul hq.head).mono (by omega)
    refine rowR_bd ha hq.tail (fun m x hm e => ?_) (bd_set h hv)
    rw [List.getElem?_set_ne (by omega)] at e
    exact hc m x (by omega) e
theorem mulAcc_bd {u v : Nat} {q : List Rat} (hq : BdL v q) : ∀ {p : List Rat} {n c : Nat} {fd : List Rat}, BdL u p → BdL c fd → BdL (c + p.length * (u + v + 1)) (mulAcc n p q fd)
  | [], n, c, fd, _, h => h.mono (by simp)
  | a :: p, n, c, fd, hp, h => by
    rw [mulAcc]
    have h1 := rowR_bd (c := c) hp.head (n := n) hq (fun m x _ e => h.get e) (h.mono (by omega))
    refine (mulAcc_bd hq hp.tail h1).mono ?_
    rw [List.length_cons, Nat.succ_mul]
    omega
theorem set_PL (l : List Rat) (i : Nat) (v : Rat) : (PL l).set i (Fr v) = PL (l.set i v) := by simp [PL]
theorem rep_PL (n : Nat) : (List.replicate n [PyData.tuple [.int 0, .int 1]]).flatten = PL (List.replicate n 0) := by
  induction n with
  | zero => rfl
  | succ n ih => rw [List.replicate_succ, List.replicate_succ, List.flatten_cons, ih] <;> rfl
theorem ix_ok {n i : Nat} (h : i < n) : ixOf n (i : Int) = some i := by
  have : (i : Int) < n := by omega
  simp [ixOf, L2.ixN, this]
theorem rep_n {xs : List PyData} {n : Int} {m : Nat} (h : n.toNat = m) (hn : n < 2 ^ 63 ∧ -(2 ^ 63) ≤ n) (hz : xs.length * m ≤ 1000) (hk : k (.new (List.replicate m xs).flatten)) : w2 .mul (.new xs) (.d (.int n)) k := by
  subst h
  exact ⟨_, _, rfl, rfl, ⟨hn.2, hn.1, sz _ hz⟩, hk⟩
theorem max0_nat (z : Int) : (b3 .max 0 z).toNat = z.toNat := by
  unfold b3
  dsimp only
  split <;> omega
theorem max0_lt {z : Int} (h : z < 100000) : b3 .max 0 z < 2 ^ 63 ∧ -(2 ^ 63) ≤ b3 .max 0 z := by
  unfold b3
  dsimp only
  split <;> omega
theorem put_ok {fe : FE} {i : Nat} {j e : E} {ρ : List SV} {kf : KF} {l : List Rat} {m : Nat} (ho : ρ[i]? = some (.own (PL l))) (hm : m < l.length) (v : Rat) (hj : ∀ ka : KA, ka (.d (.int m)) → (ev fe x j).v ρ ka) (he : ∀ ka : KA, ka (.d (Fr v)) → (ev fe x e).v ρ ka)
    (hk : kf (.nx (ρ.set i (.own (PL (l.set m v)))))) : ex fe x (.put i j e) ρ kf := by
  rw [x_put]
  refine he _ ⟨Fr v, rfl, PL l, ho, hj _ ?_⟩
  rw [int_w]
  exact ⟨m, ix_ok (by rw [PL_len]; exact hm), by rw [set_PL]; exact hk⟩
theorem multiplied_ok {p q : List Rat} {a b : Nat} (hp : BdL a p) (hq : BdL b q) (hz : (p.length + 2) * (a + b + 1) < 8000) (hn : p.length ≤ 400 ∧ q.length ≤ 400) (hk : k (.d (PT (mulR p q)))) : F_multiplied [.d (PT p), .d (PT q)] k x := by
  simp [F_multiplied, runF, b_multiplied, PT, PL_len]
  refine ⟨by decide, ?_⟩
  refine rep_n (m := p.length + q.length - 1) ?_ ?_ (by simp; omega) ?_
  · rw [max0_nat]
    omega
  · exact max0_lt (by omega)
  rw [rep_PL]
  simp
  let I : Nat → List SV → Prop := fun i ρ => ∃ u v w y, ρ = [.d (PT p), .d (PT q), .own (PL (mulAcc 0 (p.take i) q (List.replicate (p.length + q.length - 1) 0))), u, v, w, y]
  refine loop_inv I (i := 0) ⟨.un, .un, .un, .un, by simp [PT, mulAcc]⟩ (fun i y ρ hy hI => ?_) fun ρ hI => ?_
  · obtain ⟨u, v, w, y', rfl⟩ := hI
    simp only [Nat.zero_add]
    obtain ⟨c, hc, rfl⟩ := enuL_PL p 0 i y hy
    have hi : i < p.length := (List.getElem?_eq_some_iff.mp hc).1
    rw [Nat.zero_add]
    refine ⟨_, by simp [tgt, setD]; rfl, fun kf h => ?_⟩
    simp [PT]
    generalize hfd : mulAcc 0 (p.take i) q (List.replicate (p.length + q.length - 1) 0) = fd
    have hfl : fd.length = p.length + q.length - 1 := by rw [← hfd, mulAcc_len, List.length_replicate]
    have hfb : BdL (1 + i * (a + b + 1)) fd := by
      rw [← hfd]
      have := mulAcc_bd hq (p := p.take i) (n := 0) (c := 1) (fd := List.replicate (p.length + q.length - 1) 0) (hp.sub fun _ => List.mem_of_mem_take) (fun z hz => by rw [(List.mem_replicate.mp hz).2]; exact bd0)
      rwa [List.length_take, Nat.min_eq_left (by omega)] at this
    have hcb := hp.get hc
    let J : Nat → List SV → Prop := fun j ρ => ∃ w y, ρ = [.d (PT p), .d (PT q), .own (PL (rowR c i (q.take j) fd)), .d (.int i), .d (Fr c), w, y]
    refine loop_inv J (i := 0) ⟨w, y', by simp [PT, rowR]⟩ (fun j z ρ hz' hJ => ?_) fun ρ hJ => ?_
    · obtain ⟨w, y, rfl⟩ := hJ
      simp only [Nat.zero_add]
      obtain ⟨d, hd, rfl⟩ := enuL_PL q 0 j z hz'
      have hj : j < q.length := (List.getElem?_eq_some_iff.mp hd).1
      rw [Nat.zero_add]
      refine ⟨_, by simp [tgt, setD]; rfl, fun kf2 h2 => ?_⟩
      have hlen : i + j < (rowR c i (q.take j) fd).length := by rw [rowR_len, hfl]; omega
      have hget : (rowR c i (q.take j) fd)[i + j]? = fd[i + j]? := rowR_after _ _ _ _ _ (by rw [List.length_take]; omega)
      obtain ⟨g, hg⟩ : ∃ g, fd[i + j]? = some g := ⟨fd[i + j]'(by rw [hfl]; omega), List.getElem?_eq_getElem _⟩
      have hgb := hfb.get hg
      have hdb := hq.get hd
      have hm : i * (a + b + 1) + 2 * (a + b + 1) ≤ (p.length + 2) * (a + b + 1) := by
        rw [← Nat.add_mul]
        exact Nat.mul_le_mul_right _ (by omega)
      rw [x_cons]
      refine put_ok (l := rowR c i (q.take j) fd) (m := i + j) rfl hlen (g + c * d) (fun ka hka => ?_) (fun ka hka => ?_) ?_
      · simpa using hka
      · simp [fe_multiplied]
        have e1 : (i : Int) + (j : Int) = ((i + j : Nat) : Int) := by omega
        rw [e1]
        refine idx_b (PL_at (hget.trans hg)) ?_
        simp
        refine times_ok hcb hdb (by omega) ?_
        simp
        exact plus_ok hgb (hcb.mul hdb) (by omega) (by simpa using hka)
      · simp
        refine h2 _ ⟨.d (.int j), .d (Fr d), ?_⟩
        have ht : q.take (j + 1) = q.take j ++ [d] := by rw [List.take_succ, hd] <;> rfl
        rw [ht, rowR_snoc, List.length_take, Nat.min_eq_left (by omega), List.getD_eq_getElem?_getD, hget, hg]
        rfl
    · obtain ⟨w, y, rfl⟩ := hJ
      refine h _ ⟨.d (.int i), .d (Fr c), w, y, ?_⟩
      have ht : p.take (i + 1) = p.take i ++ [c] := by rw [List.take_succ, hc] <;> rfl
      rw [ht, mulAcc_snoc, List.length_take, Nat.min_eq_left (by omega), hfd, Nat.zero_add, Nat.zero_add, enuL_length, PL_len, List.take_length]
  · obtain ⟨u, v, w, y, rfl⟩ := hI
    rw [enuL_length, PL_len, Nat.zero_add, List.take_length]
    simp [fe_multiplied]
    exact trimmed_ok (by rw [mulAcc_len, List.length_replicate]; omega) ⟨_, rfl, bare_PT _, by simpa [mulR] using hk⟩
end
end Un
end
section
/-! Un: shifted. -/
namespace Un
open PySem Pg
def hor (f : Rat) : List Rat → List Rat
  | [] => []
  | a :: l => (a + (hor f l).headD 0 * f) :: hor f l
theorem hor_len (f : Rat) : ∀ l : List Rat, (hor f l).length = l.length
  | [] => rfl
  | a :: l => by rw [hor, List.length_cons, List.length_cons, hor_len f l]
theorem hor_bd {f : Rat} {a b : Nat} (hf : Bd b f) : ∀ {l : List Rat}, BdL a l → BdL (l.length * (a + b + 1)) (hor f l) ∧ Bd (l.length * (a + b + 1) + 1) ((hor f l).headD 0)
  | [], _ => ⟨fun q h => by simp [hor] at h, bd0.mono (by omega)⟩
  | [c], h => by
    have e : hor f [c] = [c] := by simp [hor, Rat.zero_mul, Rat.add_zero]
    rw [e]
    refine ⟨fun q hq => ?_, h.head.mono (by simp; omega)⟩
    have : q = c := by simpa using hq
    subst this
    exact h.head.mono (by simp; omega)
  | c :: d :: l, h => by
    obtain ⟨h1, h2⟩ := hor_bd (l := d :: l) hf h.tail
    have h3 : Bd ((c :: d :: l).length * (a + b + 1)) (c + (hor f (d :: l)).headD 0 * f) := by
      have e : hor f (d :: l) = (d + (hor f l).headD 0 * f) :: hor f l := rfl
      have h4 : Bd ((d :: l).length * (a + b + 1)) ((hor f (d :: l)).headD 0) := by
        rw [e]
        exact h1 _ (by rw [e]; simp)
      have e5 : (c :: d :: l).length * (a + b + 1) = (d :: l).length * (a + b + 1) + (a + b + 1) := by rw [List.length_cons, Nat.succ_mul]
      refine (h.head.add (h4.mul hf)).mono ?_
      omega
    refine ⟨fun q hq => ?_, h3.mono (by omega)⟩
    rw [hor] at hq
    rcases List.mem_cons.mp hq with rfl | hq
    · exact h3
    · refine (h1 q hq).mono (Nat.mul_le_mul_right _ (by simp))
def shRows (f : Rat) (l : List Rat) : Nat → List Rat
  | 0 => l
  | i + 1 => (shRows f l i).take i ++ hor f ((shRows f l i).drop i)
def shR (l : List Rat) (f : Rat) : List Rat := shRows f l (l.length - 1)
theorem shRows_len (f : Rat) (l : List Rat) : ∀ i, (shRows f l i).length = l.length
  | 0 => rfl
  | i + 1 => by rw [shRows, List.length_append, hor_len, List.length_take, List.length_drop, shRows_len f l i]; omega
def shBits (n a b : Nat) : Nat → Nat
  | 0 => a
  | i + 1 => n * (shBits n a b i + b + 1)
theorem shRows_bd {f : Rat} {a b : Nat} {l : List Rat} (hf : Bd b f) (hl : BdL a l) (hn : 0 < l.length) : ∀ i, BdL (shBits l.length a b i) (shRows f l i)
  | 0 => hl
  | i + 1 => by
    have ih := shRows_bd hf hl hn i
    intro q hq
    rw [shRows] at hq
    rcases List.mem_append.mp hq with h | h
    · refine (ih q (List.mem_of_mem_take h)).mono ?_
      show _ ≤ l.length * _
      refine Nat.le_trans ?_ (Nat.le_mul_of_pos_left _ hn)
      omega
    · refine ((hor_bd hf (ih.sub fun _ => List.mem_of_mem_drop)).1 q h).mono ?_
      show _ ≤ l.length * _
      exact Nat.mul_le_mul_right _ (by rw [List.length_drop, shRows_len]; omega)
theorem shBits_le {n a b : Nat} (hn : 0 < n) : ∀ {i j : Nat}, i ≤ j → shBits n a b i ≤ shBits n a b j
  | i, 0, h => by
    obtain rfl : i = 0 := by omega
    exact Nat.le_refl _
  | i, j + 1, h => by
    rcases Nat.lt_or_ge i (j + 1) with h1 | h1
    · refine Nat.le_trans (shBits_le hn (Nat.lt_succ_iff.mp h1)) ?_
      show _ ≤ n * _
      refine Nat.le_trans ?_ (Nat.le_mul_of_pos_left _ hn)
      omega
    · obtain rfl : i = j + 1 := by omega
      exact Nat.le_refl _
section
variable {k : KA} {x : KX}
theorem getD_snoc {α : Type} (l : List α) (m : Nat) (d : α) (h : m < l.length) : l[m]? = some (l.getD m d) := by
  rw [List.getD_eq_getElem?_getD, List.getElem?_eq_getElem h] <;> rfl
/-- a row, done from the back down to m -/
def part (f : Rat) (s : List Rat) (m : Nat) : List Rat := s.take m ++ hor f (s.drop m)
theorem part_len (f : Rat) (s : List Rat) (m : Nat) : (part f s m).length = s.length := by
  unfold part
  rw [List.length_append, hor_len, List.length_take, List.length_drop]
  omega
theorem part_step (f : Rat) (s : List Rat) (m : Nat) (h : m + 1 < s.length) : ∃ u v, (part f s (m + 1))[m]? = some u ∧ (part f s (m + 1))[m + 1]? = some v ∧ u = s.getD m 0 ∧ v = (hor f (s.drop (m + 1))).headD 0 ∧ (part f s (m + 1)).set m (u + v * f) = part f s m := by
  have h1 : s.drop (m + 1) = s[m + 1] :: s.drop (m + 2) := List.drop_eq_getElem_cons h
  have h0 : s.drop m = s[m] :: s.drop (m + 1) := List.drop_eq_getElem_cons (by omega)
  have e1 : (part f s (m + 1))[m]? = some s[m] := by
    unfold part
    rw [List.getElem?_append_left (by rw [List.length_take]; omega), List.getElem?_take_of_lt (by omega), List.getElem?_eq_getElem]
  have e2 : (part f s (m + 1))[m + 1]? = some ((hor f (s.drop (m + 1))).headD 0) := by
    unfold part
    rw [List.getElem?_append_right (by rw [List.length_take]; omega), List.length_take, Nat.min_eq_left (by omega), Nat.sub_self, h1, hor]
    rfl
  refine ⟨_, _, e1, e2, ?_, rfl, ?_⟩
  · rw [List.getD_eq_getElem?_getD, List.getElem?_eq_getElem (by omega)] <;> rfl
  · unfold part
    rw [h0, hor, List.take_succ_eq_append_getElem (by omega), List.append_assoc, List.set_append_right _ _ (by rw [List.length_take]; omega), List.length_take, Nat.min_eq_left (by omega), Nat.sub_self]
    rfl
theorem rng_down {m n : Int} (h1 : -(2 ^ 62) ≤ m ∧ m < 2 ^ 62) (h2 : -(2 ^ 62) ≤ n ∧ n < 2 ^ 62) : L2.RgC m n (-1) (m - n).toNat := L2.RgC.neg h1.1 h1.2 h2.1 h2.2
theorem rng_get {lo c : Int} {n i : Nat} {y : PyData} (h : (rngL lo c n)[i]? = some y) : i < n ∧ y = .int (lo + (i : Int) * c) := by
  unfold rngL at h
  rw [List.getElem?_map] at h
  cases e : (List.range n)[i]? with
  | none => rw [e] at h; cases h
  | some j =>
    have hi : i < n := by simpa using (List.getElem?_eq_some_iff.mp e).1
    rw [List.getElem?_range hi] at e
    cases e
    rw [List.getElem?_range hi] at h
    exact ⟨hi, (Option.some.inj h).symm⟩
theorem rngL_length (lo c : Int) (n : Nat) : (rngL lo c n).length = n := by simp [rngL]
theorem shifted_ok {l : List Rat} {f : Rat} {a b : Nat} (hl : BdL a l) (hf : Bd b f) (hz : 2 * shBits l.length a b l.length + b + 10 < 8000) (hn : l.length ≤ 400) (hk : k (.d (PT (shR l f)))) : F_shifted [.d (PT l), .d (Fr f)] k x := by
  simp [F_shifted, runF, b_shifted, PT, PL_len, RngOk]
  refine ⟨⟨by omega, by omega⟩, ?_⟩
  let I : Nat → List SV → Prop := fun i ρ => ∃ u v, ρ = [.d (PT l), .d (Fr f), .own (PL (shRows f l i)), u, v]
  refine loop_inv I (i := 0) ⟨.un, .un, by simp [PT, shRows]⟩ (fun i y ρ hy hI => ?_) fun ρ hI => ?_
  · obtain ⟨u, v, rfl⟩ := hI
    try simp only [Nat.zero_add]
    obtain ⟨hi, rfl⟩ := rng_get hy
    have hi2 : i + 1 < l.length := by omega
    refine ⟨_, rfl, fun kf h => ?_⟩
    try simp only [Nat.zero_add] at h
    generalize hs : shRows f l i = s at *
    have hsl : s.length = l.length := by rw [← hs, shRows_len]
    have hsb : BdL (shBits l.length a b l.length) s := by
      rw [← hs]
      exact (shRows_bd hf hl (by omega) i).mono (shBits_le (by omega) (by omega))
    simp [PL_len]
    refine ⟨_, rng_down ⟨by omega, by omega⟩ ⟨by omega, by omega⟩, ?_⟩
    let J : Nat → List SV → Prop := fun j ρ => ∃ v, ρ = [.d (PT l), .d (Fr f), .own (PL (part f s (l.length - 1 - j))), .d (.int i), v]
    refine loop_inv J (i := 0) ⟨v, ?_⟩ (fun j z ρ hz' hJ => ?_) fun ρ hJ => ?_
    · have hp : part f s (l.length - 1 - 0) = s := by
        have h1 : s.drop (l.length - 1) = [s[l.length - 1]'(by omega)] := by
          rw [List.drop_eq_getElem_cons (by omega), List.drop_eq_nil_of_le (by omega)]
        unfold part
        rw [Nat.sub_zero, h1]
        simp only [hor, List.headD_nil, Rat.zero_mul, Rat.add_zero]
        rw [← h1, List.take_append_drop]
      rw [hp]
      try simp [PT]
    · obtain ⟨v, rfl⟩ := hJ
      try simp only [Nat.zero_add]
      obtain ⟨hj, rfl⟩ := rng_get hz'
      obtain ⟨m, hm⟩ : ∃ m : Nat, l.length - 1 - j = m + 1 := ⟨l.length - 2 - j, by omega⟩
      have hm2 : (s.length : Int) - 2 + (j : Int) * -1 = (m : Int) := by omega
      rw [hm2]
      refine ⟨_, rfl, fun kf2 h2 => ?_⟩
      rw [hm]
      obtain ⟨c, d, g1, g2, g3, g4, g5⟩ := part_step f s m (by omega)
      have hcb : Bd (shBits l.length a b l.length) c := by
        rw [g3]
        exact hsb.get (getD_snoc s m 0 (by omega))
      have hdb : Bd (shBits l.length a b l.length + 1) d := by
        rw [g4, ← hs]
        refine (hor_bd hf ((shRows_bd hf hl (by omega) i).sub fun _ => List.mem_of_mem_drop)).2.mono ?_
        have h3 : shBits l.length a b (i + 1) ≤ shBits l.length a b l.length := shBits_le (by omega) (by omega)
        have h4 : ((shRows f l i).drop (m + 1)).length * (shBits l.length a b i + b + 1) ≤ l.length * (shBits l.length a b i + b + 1) := Nat.mul_le_mul_right _ (by rw [List.length_drop, shRows_len]; omega)
        show _ ≤ shBits l.length a b l.length + 1
        have h5 : shBits l.length a b (i + 1) = l.length * (shBits l.length a b i + b + 1) := rfl
        omega
      rw [x_cons]
      refine put_ok (l := part f s (m + 1)) (m := m) rfl (by rw [part_len]; omega) (c + d * f) (fun ka hka => ?_) (fun ka hka => ?_) ?_
      · simpa using hka
      · simp [fe_shifted]
        refine idx_b (PL_at g1) ?_
        simp
        have e1 : (m : Int) + 1 = ((m + 1 : Nat) : Int) := by omega
        rw [e1]
        refine idx_b (PL_at g2) ?_
        simp
        refine times_ok hdb hf (by omega) ?_
        simp
        exact plus_ok hcb (hdb.mul hf) (by omega) (by simpa using hka)
      · rw [g5]
        simp
        refine h2 _ ⟨.d (.int m), ?_⟩
        have e2 : l.length - 1 - (j + 1) = m := by omega
        rw [e2]
    · obtain ⟨v, rfl⟩ := hJ
      refine h _ ⟨.d (.int i), v, ?_⟩
      rw [rngL_length, shRows, hs]
      have e3 : l.length - 1 - (0 + ((s.length : Int) - 2 - ((i : Int) - 1)).toNat) = i := by omega
      rw [e3]
      rfl
  · obtain ⟨u, v, rfl⟩ := hI
    rw [rngL_length]
    simpa [shR, PT] using hk
end
end Un
end
section
/-! Un: polynomials by their coefficients. -/
namespace Un
open PySem Pg
def cf (l : List Rat) (i : Nat) : Rat := l.getD i 0
@[simp] theorem cf_nil {i : Nat} : cf [] i = 0 := by simp [cf]
@[simp] theorem cf_0 {a : Rat} {l : List Rat} : cf (a :: l) 0 = a := by simp [cf]
@[simp] theorem cf_s {a : Rat} {l : List Rat} {i : Nat} : cf (a :: l) (i + 1) = cf l i := by simp [cf]
theorem cf_trim : ∀ (l : List Rat) (i : Nat), cf (trimR l) i = cf l i
  | [], _ => rfl
  | a :: l, i => by
    have ih := cf_trim l
    rw [trimR]
    split
    · next h =>
      rw [cf_nil]
      cases i with
      | zero => simp [h.2]
      | succ i =>
        have := ih i
        rw [h.1, cf_nil] at this
        simpa using this
    · cases i with
      | zero => simp
      | succ i => simpa using ih i
theorem trim_len : ∀ l : List Rat, (trimR l).length ≤ l.length
  | [] => Nat.le_refl _
  | a :: l => by
    have := trim_len l
    rw [trimR]
    split
    · simp
    · simpa using this
theorem trim_zero : ∀ {l : List Rat}, (∀ i, cf l i = 0) → trimR l = []
  | [], _ => rfl
  | a :: l, h => by
    have h0 := h 0
    have ih := trim_zero (l := l) fun i => by simpa using h (i + 1)
    simp at h0
    simp [trimR, ih, h0]
theorem trim_ext : ∀ {l m : List Rat}, (∀ i, cf l i = cf m i) → trimR l = trimR m
  | [], m, h => (trim_zero fun i => by rw [← h i]; simp).symm
  | a :: l, [], h => trim_zero fun i => by rw [h i]; simp
  | a :: l, b :: m, h => by
    have h0 := h 0
    simp at h0
    have ih := trim_ext (l := l) (m := m) fun i => by simpa using h (i + 1)
    rw [trimR, trimR, ih, h0]
theorem eq_of_cf {l m : List Rat} (hl : trimR l = l) (hm : trimR m = m) (h : ∀ i, cf l i = cf m i) : l = m := by rw [← hl, ← hm, trim_ext h]
theorem trim_idem (l : List Rat) : trimR (trimR l) = trimR l := trim_ext (cf_trim l)
theorem cf_end {l : List Rat} {i : Nat} (h : l.length ≤ i) : cf l i = 0 := by simp [cf, List.getElem?_eq_none h]
theorem trimmed_of : ∀ {l : List Rat}, (l.length = 0 ∨ cf l (l.length - 1) ≠ 0) → trimR l = l := fun {l} h => by
  rcases List.eq_nil_or_concat l with rfl | ⟨m, c, rfl⟩
  · rfl
  · rw [List.concat_eq_append] at h ⊢
    refine trimR_snoc ?_ m
    simpa [cf] using h
theorem of_trimmed {l : List Rat} (h : trimR l = l) : l.length = 0 ∨ cf l (l.length - 1) ≠ 0 := by
  rcases List.eq_nil_or_concat l with rfl | ⟨m, c, rfl⟩
  · exact .inl rfl
  · rw [List.concat_eq_append] at h ⊢
    refine .inr ?_
    by_cases hc : c = 0
    · subst hc
      rw [trimR_snoc0] at h
      have := congrArg List.length h
      have h2 := trim_len m
      rw [List.length_append] at this
      simp at this
      omega
    · simpa [cf] using hc
theorem cf_get {l : List Rat} {i : Nat} {q : Rat} (h : l[i]? = some q) : cf l i = q := by simp [cf, h]
theorem cf_dz (l : List Rat) (n i : Nat) : cf (dz n l) i = cf l i * ((n + i : Nat) : Rat) := by
  rcases Nat.lt_or_ge i l.length with h | h
  · have e : l[i]? = some l[i] := List.getElem?_eq_getElem h
    rw [cf_get (dz_get l n i _ e), cf_get e]
  · rw [cf_end h, cf_end (by rw [dz_len]; exact h), Rat.zero_mul]
theorem cf_sl (l : List Rat) (i : Nat) : cf (slR l) i = cf l (i + 1) * ((i + 1 : Nat) : Rat) := by
  unfold slR
  rw [cf_dz, Nat.add_comm 1 i]
  cases l with
  | nil => simp
  | cons a t => simp
theorem cf_hz (l : List Rat) (n i : Nat) : cf (hz n l) i = cf l i * inv1 (n + i) := by
  rcases Nat.lt_or_ge i l.length with h | h
  · have e : l[i]? = some l[i] := List.getElem?_eq_getElem h
    rw [cf_get (hz_get l n i _ e), cf_get e]
  · rw [cf_end h, cf_end (by rw [hz_len]; exact h), Rat.zero_mul]
theorem cf_hp0 (l : List Rat) : cf (hpR l) 0 = 0 := by cases l <;> simp [hpR]
theorem cf_hp (l : List Rat) (i : Nat) : cf (hpR l) (i + 1) = cf l i * inv1 i := by
  cases l with
  | nil => simp [hpR]
  | cons a t =>
    rw [hpR, cf_s, cf_hz, Nat.zero_add]
theorem cf_addL : ∀ (p q : List Rat) (i : Nat), cf (addL p q) i = cf p i + cf q i
  | [], q, i => by simp [addL, Rat.zero_add]
  | a :: p, [], i => by simp [addL, Rat.add_zero]
  | a :: p, b :: q, 0 => by simp [addL]
  | a :: p, b :: q, i + 1 => by simp [addL, cf_addL p q i]
theorem cf_add (p q : List Rat) (i : Nat) : cf (addR p q) i = cf p i + cf q i := by rw [addR, cf_trim, cf_addL]
theorem cf_map (f : Rat) : ∀ (l : List Rat) (i : Nat), cf (l.map (· * f)) i = cf l i * f
  | [], i => by simp
  | a :: l, 0 => by simp
  | a :: l, i + 1 => by simpa using cf_map f l i
theorem cf_sc (l : List Rat) (f : Rat) (i : Nat) : cf (scR l f) i = cf l i * f := by rw [scR, cf_trim, cf_map]
theorem cf_st (f : Rat) : ∀ (l : List Rat) (n i : Nat), cf (stL f n l) i = cf l i * pwR f (n + i)
  | [], n, i => by simp [stL]
  | a :: l, n, 0 => by simp [stL]
  | a :: l, n, i + 1 => by
    have := cf_st f l (n + 1) i
    rw [show n + 1 + i = n + (i + 1) by omega] at this
    simpa [stL] using this
theorem cf_str (l : List Rat) (f : Rat) (i : Nat) : cf (strR l f) i = cf l i * pwR f i := by rw [strR, cf_trim, cf_st, Nat.zero_add]
/-! ### products -/
def cv : Nat → (Nat → Rat) → (Nat → Rat) → Rat
  | 0, f, g => f 0 * g 0
  | n + 1, f, g => f 0 * g (n + 1) + cv n (fun i => f (i + 1)) g
theorem cv_add : ∀ (n : Nat) (f h g : Nat → Rat), cv n (fun i => f i + h i) g = cv n f g + cv n h g
  | 0, f, h, g => by simp [cv]; grind
  | n + 1, f, h, g => by simp only [cv, cv_add n]; grind
def dv (f : Nat → Rat) (i : Nat) : Rat := f (i + 1) * ((i + 1 : Nat) : Rat)
theorem cast1 (n : Nat) : ((n + 1 : Nat) : Rat) = (n : Rat) + 1 := by simp
theorem cv_dv : ∀ (n : Nat) (f g : Nat → Rat), cv (n + 1) f g * ((n + 1 : Nat) : Rat) = cv n (dv f) g + cv n f (dv g)
  | 0, f, g => by simp [cv, dv]; grind
  | n + 1, f, g => by
    have ih := cv_dv n (fun i => f (i + 1)) g
    have e : (fun i => dv f (i + 1)) = fun i => dv (fun i => f (i + 1)) i + f (i + 1 + 1) := by
      funext i
      simp only [dv, cast1]
      grind
    have e2 := cv_add n (dv fun i => f (i + 1)) (fun i => f (i + 1 + 1)) g
    rw [show cv (n + 1) (dv f) g = dv f 0 * g (n + 1) + cv n (fun i => dv f (i + 1)) g from rfl, e, e2]
    rw [show cv (n + 1 + 1) f g = f 0 * g (n + 1 + 1) + cv (n + 1) (fun i => f (i + 1)) g from rfl]
    rw [show cv (n + 1) f (dv g) = f 0 * dv g (n + 1) + cv n (fun i => f (i + 1)) (dv g) from rfl]
    rw [show cv (n + 1) (fun i => f (i + 1)) g = f 1 * g (n + 1) + cv n (fun i => f (i + 1 + 1)) g from rfl] at ih ⊢
    simp only [dv, cast1] at ih ⊢
    generalize cv n (fun i => f (i + 1 + 1)) g = A at *
    generalize cv n (fun i => f (i + 1 + 1) * ((i : Rat) + 1)) g = B at *
    generalize cv n (fun i => f (i + 1)) (fun i => g (i + 1) * ((i : Rat) + 1)) = C at *
    have z : ((0 : Nat) : Rat) = 0 := rfl
    grind
theorem cf_set {fd : List Rat} {n m : Nat} {v : Rat} (h : n < fd.length) : cf (fd.set n v) m = if m = n then v else cf fd m := by
  by_cases e : m = n
  · subst e
    rw [if_pos rfl]
    simp [cf, h]
  · rw [if_neg e]
    simp [cf, List.getElem?_set_ne (Ne.symm e)]
theorem cf_row (a : Rat) : ∀ (q : List Rat) (n m : Nat) (fd : List Rat), n + q.length ≤ fd.length → cf (rowR a n q fd) m = cf fd m + (if n ≤ m then a * cf q (m - n) else 0)
  | [], n, m, fd, h => by
    simp [rowR]
    exact (Rat.add_zero _).symm
  | b :: q, n, m, fd, h => by
    rw [List.length_cons] at h
    rw [rowR, cf_row a q (n + 1) m _ (by rw [List.length_set]; omega), cf_set (by omega), show fd.getD n 0 = cf fd n from rfl]
    by_cases e : m = n
    · subst e
      rw [if_pos rfl, if_neg (by omega), if_pos (Nat.le_refl _), Nat.sub_self, cf_0, Rat.add_zero]
    · rw [if_neg e]
      by_cases h2 : n ≤ m
      · obtain ⟨j, rfl⟩ : ∃ j, m = n + 1 + j := ⟨m - n - 1, by omega⟩
        rw [if_pos (by omega), if_pos h2, show n + 1 + j - (n + 1) = j by omega, show n + 1 + j - n = j + 1 by omega, cf_s]
      · rw [if_neg (by omega), if_neg h2]
theorem cv_nil : ∀ (n : Nat) (g : Nat → Rat), cv n (cf []) g = 0
  | 0, g => by simp [cv, Rat.zero_mul]
  | n + 1, g => by
    rw [cv, cf_nil, Rat.zero_mul, show (fun i => cf [] (i + 1)) = cf [] from funext fun i => by simp, cv_nil n, Rat.zero_add]
theorem cv_cons (a : Rat) (p : List Rat) (g : Nat → Rat) : ∀ n, cv n (cf (a :: p)) g = a * g n + (if 1 ≤ n then cv (n - 1) (cf p) g else 0)
  | 0 => by simp [cv]; exact (Rat.add_zero _).symm
  | n + 1 => by
    rw [cv, cf_0, show (fun i => cf (a :: p) (i + 1)) = cf p from funext fun i => by simp, if_pos (by omega), Nat.add_sub_cancel]
theorem cf_acc (q : List Rat) : ∀ (p : List Rat) (n m : Nat) (fd : List Rat), n + p.length + q.length ≤ fd.length + 1 → cf (mulAcc n p q fd) m = cf fd m + (if n ≤ m then cv (m - n) (cf p) (cf q) else 0)
  | [], n, m, fd, h => by
    simp [mulAcc, cv_nil]
    exact (Rat.add_zero _).symm
  | a :: p, n, m, fd, h => by
    rw [List.length_cons] at h
    rw [mulAcc, cf_acc q p (n + 1) m _ (by rw [rowR_len]; omega), cf_row _ _ _ _ _ (by omega), cv_cons]
    by_cases h2 : n ≤ m
    · rw [if_pos h2, if_pos h2]
      by_cases h3 : n + 1 ≤ m
      · rw [if_pos h3, if_pos (by omega), show m - n - 1 = m - (n + 1) by omega, Rat.add_assoc]
      · rw [if_neg h3, if_neg (by omega), Rat.add_zero, Rat.add_zero]
    · rw [if_neg h2, if_neg h2, if_neg (by omega), Rat.add_zero]
theorem cf_rep (n m : Nat) : cf (List.replicate n 0) m = 0 := by
  unfold cf
  rw [List.getD_eq_getElem?_getD, List.getElem?_replicate]
  split <;> rfl
theorem cf_mul (p q : List Rat) (n : Nat) : cf (mulR p q) n = cv n (cf p) (cf q) := by
  rw [mulR, cf_trim, cf_acc _ _ _ _ _ (by rw [List.length_replicate]; omega), cf_rep, if_pos (Nat.zero_le _), Nat.sub_zero, Rat.zero_add]
/-! ### trimmed ones stay so -/
theorem tr_add (p q : List Rat) : trimR (addR p q) = addR p q := trim_idem _
theorem tr_sc (p : List Rat) (f : Rat) : trimR (scR p f) = scR p f := trim_idem _
theorem tr_str (p : List Rat) (f : Rat) : trimR (strR p f) = strR p f := trim_idem _
theorem tr_mul (p q : List Rat) : trimR (mulR p q) = mulR p q := trim_idem _
theorem sl_len (l : List Rat) : (slR l).length = l.length - 1 := by unfold slR; rw [dz_len, List.length_tail]
theorem hp_len (l : List Rat) : (hpR l).length = if l = [] then 0 else l.length + 1 := by cases l <;> simp [hpR, hz_len]
theorem nat_ne (n : Nat) : ((n + 1 : Nat) : Rat) ≠ 0 := by
  rw [show (0 : Rat) = ((0 : Nat) : Rat) from rfl, Ne, Rat.natCast_inj]
  omega
theorem inv_mul (n : Nat) : inv1 n * ((n + 1 : Nat) : Rat) = 1 := by
  rw [rat_mul, inv1_num, inv1_den, Rat.num_natCast, Rat.den_natCast]
  simp
  exact Rat.divInt_self' (by omega)
theorem inv_ne (n : Nat) : inv1 n ≠ 0 := fun h => by
  have := inv_mul n
  rw [h, Rat.zero_mul] at this
  exact absurd this (by decide)
theorem mul_ne {a b : Rat} (ha : a ≠ 0) (hb : b ≠ 0) : a * b ≠ 0 := by
  intro h
  rcases Rat.mul_eq_zero.mp h with h | h
  · exact ha h
  · exact hb h
theorem tr_sl {l : List Rat} (h : trimR l = l) : trimR (slR l) = slR l := by
  refine trimmed_of ?_
  rw [sl_len]
  rcases of_trimmed h with h | h
  · exact .inl (by omega)
  · by_cases h1 : l.length - 1 = 0
    · exact .inl h1
    · refine .inr ?_
      rw [cf_sl, show l.length - 1 - 1 + 1 = l.length - 1 by omega]
      refine mul_ne h ?_
      rw [show l.length - 1 = l.length - 1 - 1 + 1 by omega]
      exact nat_ne _
theorem tr_hp {l : List Rat} (h : trimR l = l) : trimR (hpR l) = hpR l := by
  refine trimmed_of ?_
  rw [hp_len]
  split
  · exact .inl rfl
  · next hn =>
    have hl : 0 < l.length := List.length_pos_iff.mpr hn
    rcases of_trimmed h with h | h
    · omega
    · refine .inr ?_
      rw [show l.length + 1 - 1 = l.length - 1 + 1 by omega, cf_hp]
      exact mul_ne h (inv_ne _)
/-! ### the rules -/
theorem dz_hz : ∀ (l : List Rat) (n : Nat), dz (n + 1) (hz n l) = l
  | [], _ => rfl
  | a :: l, n => by rw [hz, dz, dz_hz l (n + 1), Rat.mul_assoc, inv_mul, Rat.mul_one]
theorem sl_hp (l : List Rat) : slR (hpR l) = l := by
  cases l with
  | nil => rfl
  | cons a t => exact dz_hz (a :: t) 0
def lessR (l : List Rat) : List Rat := if cf l 0 ≠ 0 then addR l [-(cf l 0)] else l
theorem tr_less {l : List Rat} (h : trimR l = l) : trimR (lessR l) = lessR l := by
  unfold lessR
  split
  · exact tr_add _ _
  · exact h
theorem cf_less0 (l : List Rat) : cf (lessR l) 0 = 0 := by
  unfold lessR
  split
  · rw [cf_add, cf_0]; grind
  · next h => exact Decidable.not_not.mp h
theorem cf_less (l : List Rat) (i : Nat) : cf (lessR l) (i + 1) = cf l (i + 1) := by
  unfold lessR
  split
  · rw [cf_add, cf_s, cf_nil, Rat.add_zero]
  · rfl
theorem hp_sl {l : List Rat} (h : trimR l = l) : hpR (slR l) = lessR l := eq_of_cf (tr_hp (tr_sl h)) (tr_less h) fun i => by
  cases i with
  | zero => rw [cf_hp0, cf_less0]
  | succ i => rw [cf_hp, cf_sl, cf_less, Rat.mul_assoc, Rat.mul_comm _ (inv1 i), inv_mul, Rat.mul_one]
theorem sl_less {l : List Rat} (h : trimR l = l) : slR (lessR l) = slR l := eq_of_cf (tr_sl (tr_less h)) (tr_sl h) fun i => by rw [cf_sl, cf_sl, cf_less]
theorem sl_add {p q : List Rat} (hp : trimR p = p) (hq : trimR q = q) : slR (addR p q) = addR (slR p) (slR q) := eq_of_cf (tr_sl (tr_add _ _)) (tr_add _ _) fun i => by
  rw [cf_sl, cf_add, cf_add, cf_sl, cf_sl]; grind
theorem sl_sc {p : List Rat} (f : Rat) : slR (scR p f) = scR (slR p) f := eq_of_cf (tr_sl (tr_sc _ _)) (tr_sc _ _) fun i => by
  rw [cf_sl, cf_sc, cf_sc, cf_sl]; grind
theorem sl_str {p : List Rat} (f : Rat) : slR (strR p f) = scR (strR (slR p) f) f := eq_of_cf (tr_sl (tr_str _ _)) (tr_sc _ _) fun i => by
  rw [cf_sl, cf_str, cf_sc, cf_str, cf_sl, pwR]; grind
theorem hp_add (p q : List Rat) : hpR (addR p q) = trimR (addR (hpR p) (hpR q)) := eq_of_cf (tr_hp (tr_add _ _)) (trim_idem _) fun i => by
  rw [cf_trim]
  cases i with
  | zero => rw [cf_hp0, cf_add, cf_hp0, cf_hp0, Rat.add_zero]
  | succ i => rw [cf_hp, cf_add, cf_add, cf_hp, cf_hp]; grind
theorem hp_str (p : List Rat) (f : Rat) : scR (hpR (strR p f)) f = strR (hpR p) f := eq_of_cf (tr_sc _ _) (tr_str _ _) fun i => by
  cases i with
  | zero => rw [cf_sc, cf_hp0, cf_str, cf_hp0, Rat.zero_mul, Rat.zero_mul]
  | succ i => rw [cf_sc, cf_hp, cf_str, cf_str, cf_hp, pwR]; grind
theorem cf_rule (p q : List Rat) (i : Nat) : cf (addR (mulR (slR p) q) (mulR p (slR q))) i = cv (i + 1) (cf p) (cf q) * ((i + 1 : Nat) : Rat) := by
  rw [cf_add, cf_mul, cf_mul, cv_dv, show cf (slR p) = dv (cf p) from funext (cf_sl p), show cf (slR q) = dv (cf q) from funext (cf_sl q)]
theorem sl_mul (p q : List Rat) : slR (mulR p q) = addR (mulR (slR p) q) (mulR p (slR q)) := eq_of_cf (tr_sl (tr_mul _ _)) (tr_add _ _) fun i => by rw [cf_rule, cf_sl, cf_mul]
theorem hp_mul (p q m : List Rat) (h0 : cf m 0 = cf p 0 * cf q 0) (h1 : ∀ i, cf m (i + 1) = 0) : addR (hpR (addR (mulR (slR p) q) (mulR p (slR q)))) m = mulR p q := eq_of_cf (tr_add _ _) (tr_mul _ _) fun i => by
  cases i with
  | zero => rw [cf_add, cf_hp0, h0, Rat.zero_add, cf_mul]; rfl
  | succ i => rw [cf_add, h1, Rat.add_zero, cf_hp, cf_rule, cf_mul, Rat.mul_assoc, Rat.mul_comm _ (inv1 i), inv_mul, Rat.mul_one]
end Un
end
section
/-! Un: values of polynomials. -/
namespace Un
open PySem Pg
theorem ev_ext (x : Rat) : ∀ {l m : List Rat}, (∀ i, cf l i = cf m i) → evR l x = evR m x
  | [], [], _ => rfl
  | [], b :: m, h => by
    have h0 := h 0
    have ih := ev_ext x (l := []) (m := m) fun i => by simpa using h (i + 1)
    simp at h0
    show (0 : Rat) = evR m x * x + b
    rw [← ih, ← h0]
    show (0 : Rat) = 0 * x + 0
    grind
  | a :: l, [], h => by
    have h0 := h 0
    have ih := ev_ext x (l := l) (m := []) fun i => by simpa using h (i + 1)
    simp at h0
    show evR l x * x + a = (0 : Rat)
    rw [ih, h0]
    show 0 * x + 0 = (0 : Rat)
    grind
  | a :: l, b :: m, h => by
    have h0 := h 0
    have ih := ev_ext x (l := l) (m := m) fun i => by simpa using h (i + 1)
    simp at h0
    show evR l x * x + a = evR m x * x + b
    rw [ih, h0]
theorem ev_trim (l : List Rat) (x : Rat) : evR (trimR l) x = evR l x := ev_ext x (cf_trim l)
theorem ev_addL (x : Rat) : ∀ p q : List Rat, evR (addL p q) x = evR p x + evR q x
  | [], q => by
    show evR q x = 0 + evR q x
    grind
  | a :: p, [] => by
    show evR (a :: p) x = evR (a :: p) x + 0
    grind
  | a :: p, b :: q => by
    show evR (addL p q) x * x + (a + b) = (evR p x * x + a) + (evR q x * x + b)
    rw [ev_addL x p q]
    grind
theorem ev_add (p q : List Rat) (x : Rat) : evR (addR p q) x = evR p x + evR q x := by rw [addR, ev_trim, ev_addL]
theorem ev_map (f x : Rat) : ∀ l : List Rat, evR (l.map (· * f)) x = evR l x * f
  | [] => by
    show (0 : Rat) = 0 * f
    grind
  | a :: l => by
    show evR (l.map (· * f)) x * x + a * f = (evR l x * x + a) * f
    rw [ev_map f x l]
    grind
theorem ev_sc (p : List Rat) (f x : Rat) : evR (scR p f) x = evR p x * f := by rw [scR, ev_trim, ev_map]
theorem ev_st (f x : Rat) : ∀ (l : List Rat) (n : Nat), evR (stL f n l) x = pwR f n * evR l (f * x)
  | [], n => by
    show (0 : Rat) = pwR f n * 0
    grind
  | a :: l, n => by
    show evR (stL f (n + 1) l) x * x + a * pwR f n = pwR f n * (evR l (f * x) * (f * x) + a)
    rw [ev_st f x l (n + 1)]
    show pwR f n * f * evR l (f * x) * x + a * pwR f n = _
    grind
theorem ev_str (p : List Rat) (f x : Rat) : evR (strR p f) x = evR p (f * x) := by
  rw [strR, ev_trim, ev_st]
  show 1 * _ = _
  grind
/-- the product, by its first factor -/
def mulP : List Rat → List Rat → List Rat
  | [], _ => []
  | a :: p, q => addL (q.map (· * a)) (0 :: mulP p q)
theorem ev_mulP (x : Rat) : ∀ p q : List Rat, evR (mulP p q) x = evR p x * evR q x
  | [], q => by
    show (0 : Rat) = 0 * evR q x
    grind
  | a :: p, q => by
    show evR (addL (q.map (· * a)) (0 :: mulP p q)) x = (evR p x * x + a) * evR q x
    rw [ev_addL, ev_map]
    show _ + (evR (mulP p q) x * x + 0) = _
    rw [ev_mulP x p q]
    grind
theorem cf_mulP : ∀ (p q : List Rat) (n : Nat), cf (mulP p q) n = cv n (cf p) (cf q)
  | [], q, n => by
    show cf [] n = _
    rw [cf_nil, cv_nil]
  | a :: p, q, n => by
    show cf (addL (q.map (· * a)) (0 :: mulP p q)) n = _
    rw [cf_addL, cf_map, cv_cons]
    cases n with
    | zero => simp; grind
    | succ n =>
      rw [cf_s, cf_mulP p q n]
      simp
      grind
theorem ev_mul (p q : List Rat) (x : Rat) : evR (mulR p q) x = evR p x * evR q x := by
  rw [← ev_mulP]
  exact ev_ext x fun i => by rw [cf_mul, cf_mulP]
/-- dividing by x less f -/
theorem ev_hor (f x : Rat) : ∀ l : List Rat, evR l x = (hor f l).headD 0 + (x - f) * evR (hor f l).tail x ∧ (hor f l).headD 0 = evR l f
  | [] => by
    refine ⟨?_, rfl⟩
    show (0 : Rat) = 0 + (x - f) * 0
    grind
  | a :: l => by
    obtain ⟨h1, h2⟩ := ev_hor f x l
    refine ⟨?_, ?_⟩
    · show evR l x * x + a = (a + (hor f l).headD 0 * f) + (x - f) * evR (hor f l) x
      have e : evR (hor f l) x = evR (hor f l).tail x * x + (hor f l).headD 0 := by
        cases hor f l with
        | nil =>
          show (0 : Rat) = 0 * x + 0
          grind
        | cons v r => rfl
      rw [e, h1]
      grind
    · show a + (hor f l).headD 0 * f = evR l f * f + a
      rw [h2]
      grind
/-- the rows, from the first one on -/
def shQ (f : Rat) : Nat → List Rat → List Rat
  | 0, l => l
  | n + 1, l => (hor f l).take 1 ++ shQ f n (hor f l).tail
theorem shQ_rows (f : Rat) : ∀ (n m : Nat) (l : List Rat), (shRows f l m).take m ++ shQ f n ((shRows f l m).drop m) = shRows f l (m + n)
  | 0, m, l => by
    show _ ++ (shRows f l m).drop m = _
    rw [List.take_append_drop]
    rfl
  | n + 1, m, l => by
    rw [show m + (n + 1) = (m + 1) + n by omega, ← shQ_rows f n (m + 1) l]
    have hl : (shRows f l m).length = l.length := shRows_len f l m
    by_cases hm : m < l.length
    · have e : (hor f ((shRows f l m).drop m)).length = l.length - m := by rw [hor_len, List.length_drop, hl]
      have e1 : shRows f l (m + 1) = (shRows f l m).take m ++ hor f ((shRows f l m).drop m) := rfl
      have e2 : (shRows f l (m + 1)).take (m + 1) = (shRows f l m).take m ++ (hor f ((shRows f l m).drop m)).take 1 := by
        rw [e1, List.take_append, List.length_take, Nat.min_eq_left (by omega), List.take_take, show m + 1 - m = 1 by omega, Nat.min_eq_right (by omega)]
      have e3 : (shRows f l (m + 1)).drop (m + 1) = (hor f ((shRows f l m).drop m)).tail := by
        rw [e1, List.drop_append, List.length_take, Nat.min_eq_left (by omega), List.drop_eq_nil_of_le (by rw [List.length_take]; omega), List.nil_append, show m + 1 - m = 1 by omega, List.drop_one]
      rw [e2, e3, List.append_assoc]
      rfl
    · have d0 : (shRows f l m).drop m = [] := List.drop_eq_nil_of_le (by omega)
      have e1 : shRows f l (m + 1) = shRows f l m := by
        show (shRows f l m).take m ++ hor f ((shRows f l m).drop m) = _
        rw [d0, List.take_of_length_le (by omega)]
        simp [hor]
      have d1 : (shRows f l m).drop (m + 1) = [] := List.drop_eq_nil_of_le (by omega)
      rw [e1, d0, d1, List.take_of_length_le (by omega), List.take_of_length_le (by omega)]
      have nil : ∀ n, shQ f n [] = [] := fun n => by
        induction n with
        | zero => rfl
        | succ n ih => simpa [shQ, hor] using ih
      rw [nil, nil]
theorem ev_shQ (f x : Rat) : ∀ (n : Nat) (l : List Rat), l.length ≤ n + 1 → evR (shQ f n l) x = evR l (x + f)
  | 0, l, h => by
    show evR l x = _
    cases l with
    | nil => rfl
    | cons a r =>
      have : r = [] := by simpa using h
      subst this
      show 0 * x + a = 0 * (x + f) + a
      grind
  | n + 1, l, h => by
    obtain ⟨h1, h2⟩ := ev_hor f (x + f) l
    rw [h1]
    show evR ((hor f l).take 1 ++ shQ f n (hor f l).tail) x = _
    have hl := hor_len f l
    cases e : hor f l with
    | nil =>
      have nil : ∀ n, shQ f n [] = [] := fun n => by
        induction n with
        | zero => rfl
        | succ n ih => simpa [shQ, hor] using ih
      simp [nil]
      show (0 : Rat) = 0 + (x + f - f) * 0
      grind
    | cons v r =>
      rw [e] at hl
      show evR (shQ f n r) x * x + v = v + (x + f - f) * evR r (x + f)
      rw [ev_shQ f x n r (by simp at hl; omega)]
      grind
theorem ev_sh (l : List Rat) (f x : Rat) : evR (shR l f) x = evR l (x + f) := by
  have h := shQ_rows f (l.length - 1) 0 l
  have e : shQ f (l.length - 1) l = shR l f := by
    rw [Nat.zero_add] at h
    exact h
  rw [← e]
  exact ev_shQ f x _ l (by omega)
end Un
end
section
/-! Un: sizes by a common bottom; shifted, with sizes that grow with the length alone. -/
namespace Un
open PySem Pg
/-- a top of at most A over the bottom N -/
def Rp (N A : Nat) (q : Rat) : Prop := 0 < N ∧ ∃ a : Int, q = Rat.divInt a N ∧ a.natAbs ≤ A
theorem Rp.bd {N A b : Nat} {q : Rat} (h : Rp N A q) (hN : N < 2 ^ b) (hA : A < 2 ^ b) : Bd b q := by
  obtain ⟨h0, a, rfl, h1⟩ := h
  exact low_bd (by omega) (by omega) (by omega)
theorem Rp.mono {N A B : Nat} {q : Rat} (h : Rp N A q) (hB : A ≤ B) : Rp N B q := ⟨h.1, by
  obtain ⟨_, a, e, h1⟩ := h
  exact ⟨a, e, Nat.le_trans h1 hB⟩⟩
theorem Rp.lift {N A : Nat} {q : Rat} (h : Rp N A q) {M : Nat} (hM : 0 < M) : Rp (N * M) (A * M) q := by
  obtain ⟨h0, a, rfl, h1⟩ := h
  refine ⟨Nat.mul_pos h0 hM, a * M, ?_, ?_⟩
  · have hM' : (M : Int) ≠ 0 := by omega
    rw [Int.natCast_mul, Rat.divInt_mul_right hM']
  · rw [Int.natAbs_mul]
    exact Nat.mul_le_mul h1 (by simp)
theorem Rp.add {N A B : Nat} {q r : Rat} (h : Rp N A q) (g : Rp N B r) : Rp N (A + B) (q + r) := by
  obtain ⟨h0, a, rfl, h1⟩ := h
  obtain ⟨_, b, rfl, g1⟩ := g
  refine ⟨h0, a + b, ?_, by omega⟩
  have hN : (N : Int) ≠ 0 := by omega
  rw [Rat.divInt_add_divInt _ _ hN hN, ← Int.add_mul, Rat.divInt_mul_right hN]
theorem Rp.mul {N M A B : Nat} {q r : Rat} (h : Rp N A q) (g : Rp M B r) : Rp (N * M) (A * B) (q * r) := by
  obtain ⟨h0, a, rfl, h1⟩ := h
  obtain ⟨g0, b, rfl, g1⟩ := g
  refine ⟨Nat.mul_pos h0 g0, a * b, ?_, ?_⟩
  · rw [Rat.divInt_mul_divInt, Int.natCast_mul]
  · rw [Int.natAbs_mul]
    exact Nat.mul_le_mul h1 g1
theorem Rp.self (q : Rat) : Rp q.den q.num.natAbs q := ⟨q.den_pos, q.num, (Rat.num_divInt_den q).symm, Nat.le_refl _⟩
theorem Rp.zero {N : Nat} (h : 0 < N) : Rp N 0 0 := ⟨h, 0, by simp, Nat.le_refl _⟩
theorem Rp.neg {N A : Nat} {q : Rat} (h : Rp N A q) : Rp N A (-q) := by
  obtain ⟨h0, a, rfl, h1⟩ := h
  exact ⟨h0, -a, by rw [Rat.neg_divInt], by omega⟩
def RpL (N A : Nat) (l : List Rat) : Prop := ∀ q ∈ l, Rp N A q
/-- each item, so many behind it -/
def Wg (N A d G : Nat) : List Rat → Prop
  | [] => True
  | q :: l => Rp (N * d ^ l.length) (A * G ^ l.length) q ∧ Wg N A d G l
theorem Wg.mono {N A d G G' : Nat} (hG : G ≤ G') : ∀ {l : List Rat}, Wg N A d G l → Wg N A d G' l
  | [], _ => trivial
  | q :: l, h => ⟨h.1.mono (Nat.mul_le_mul_left _ (Nat.pow_le_pow_left hG _)), Wg.mono hG h.2⟩
theorem Wg.start {N A d : Nat} (hd : 0 < d) : ∀ {l : List Rat}, RpL N A l → Wg N A d d l
  | [], _ => trivial
  | q :: l, h => ⟨(h q (List.mem_cons_self ..)).lift (Nat.pow_pos hd), Wg.start hd fun r hr => h r (List.mem_cons_of_mem _ hr)⟩
theorem Wg.hor {N A G : Nat} {f : Rat} (hN : 0 < N) (hG : f.den ≤ G) : ∀ {l : List Rat}, Wg N A f.den G l → Wg N A f.den (G + f.num.natAbs) (hor f l)
  | [], _ => trivial
  | q :: l, h => by
    have ih := Wg.hor hN hG h.2
    refine ⟨?_, ih⟩
    rw [hor_len]
    cases l with
    | nil =>
      have e : q + (Un.hor f []).headD 0 * f = q := by
        show q + 0 * f = q
        grind
      rw [e]
      simpa using h.1
    | cons r l =>
      have e : Un.hor f (r :: l) = (r + (Un.hor f l).headD 0 * f) :: Un.hor f l := rfl
      have hv : Rp (N * f.den ^ (Un.hor f l).length) (A * (G + f.num.natAbs) ^ (Un.hor f l).length) ((Un.hor f (r :: l)).headD 0) := by
        rw [e] at ih ⊢
        exact ih.1
      rw [hor_len] at hv
      have h1 := h.1
      have h2 := hv.mul (Rp.self f)
      rw [List.length_cons]
      rw [List.length_cons] at h1
      have e1 : N * f.den ^ l.length * f.den = N * f.den ^ (l.length + 1) := by rw [Nat.pow_succ, Nat.mul_assoc]
      rw [e1] at h2
      refine (h1.add h2).mono ?_
      generalize f.num.natAbs = F at *
      rw [Nat.pow_succ, Nat.pow_succ, Nat.mul_assoc, ← Nat.mul_add]
      refine Nat.mul_le_mul_left _ ?_
      rw [Nat.mul_add]
      refine Nat.add_le_add_right (Nat.mul_le_mul_right _ (Nat.pow_le_pow_left (by omega) _)) _
theorem Wg.mem {N A d G : Nat} (hd : 0 < d) (hG : d ≤ G) : ∀ {l : List Rat} {n : Nat}, Wg N A d G l → l.length ≤ n + 1 → RpL (N * d ^ n) (A * G ^ n) l
  | [], _, _, _ => fun _ h => nomatch h
  | q :: l, n, h, hn => fun r hr => by
    rcases List.mem_cons.mp hr with rfl | hr
    · have hl : l.length ≤ n := by simpa using hn
      have h1 := h.1.lift (M := d ^ (n - l.length)) (Nat.pow_pos hd)
      have e : N * d ^ l.length * d ^ (n - l.length) = N * d ^ n := by rw [Nat.mul_assoc, ← Nat.pow_add, show l.length + (n - l.length) = n by omega]
      rw [e] at h1
      refine h1.mono ?_
      rw [Nat.mul_assoc]
      refine Nat.mul_le_mul_left _ ?_
      rw [show G ^ n = G ^ l.length * G ^ (n - l.length) by rw [← Nat.pow_add, show l.length + (n - l.length) = n by omega]]
      exact Nat.mul_le_mul_left _ (Nat.pow_le_pow_left hG _)
    · exact Wg.mem hd hG (l := l) h.2 (by simp at hn; omega) r hr
theorem Wg.part {N A G : Nat} {f : Rat} (hN : 0 < N) (hG : f.den ≤ G) : ∀ {l : List Rat} (m : Nat), Wg N A f.den G l → Wg N A f.den (G + f.num.natAbs) (part f l m)
  | l, 0, h => by
    show Wg N A f.den _ (Un.hor f l)
    exact Wg.hor hN hG h
  | [], m + 1, h => by
    show Wg N A f.den _ ([].take (m + 1) ++ Un.hor f ([].drop (m + 1)))
    simp [Un.hor, Wg]
  | q :: l, m + 1, h => by
    have ih := Wg.part hN hG m h.2
    show Wg N A f.den _ (q :: Un.part f l m)
    refine ⟨?_, ih⟩
    rw [part_len]
    exact h.1.mono (Nat.mul_le_mul_left _ (Nat.pow_le_pow_left (by omega) _))
theorem Wg.rows {N A : Nat} {f : Rat} {l : List Rat} (hN : 0 < N) (h : Wg N A f.den f.den l) : ∀ i, Wg N A f.den (f.den + i * f.num.natAbs) (shRows f l i)
  | 0 => by simpa [shRows] using h
  | i + 1 => by
    have ih := Wg.rows hN h i
    have := Wg.part (G := f.den + i * f.num.natAbs) hN (by omega) i ih
    rw [show f.den + (i + 1) * f.num.natAbs = f.den + i * f.num.natAbs + f.num.natAbs by rw [Nat.succ_mul]; omega]
    exact this
/-- all that comes while a polynomial is shifted -/
theorem sh_all {N A n : Nat} {f : Rat} {l : List Rat} (h : RpL N A l) (hn : l.length ≤ n + 1) (i m : Nat) (hi : i ≤ n) : RpL (N * f.den ^ n) (A * (f.den + (n + 1) * f.num.natAbs) ^ n) (part f (shRows f l i) m) := by
  by_cases h0 : l = []
  · subst h0
    intro q hq
    have : (part f (shRows f [] i) m).length = 0 := by rw [part_len, shRows_len]; rfl
    rw [List.length_eq_zero_iff.mp this] at hq
    cases hq
  · have hN : 0 < N := by
      obtain ⟨a, ha⟩ := List.exists_mem_of_ne_nil l h0
      exact (h a ha).1
    have w := Wg.part (G := f.den + i * f.num.natAbs) hN (by omega) m (Wg.rows hN (Wg.start f.den_pos h) i)
    have w2 := Wg.mono (G' := f.den + (n + 1) * f.num.natAbs) (by
      have : (i + 1) * f.num.natAbs ≤ (n + 1) * f.num.natAbs := Nat.mul_le_mul_right _ (by omega)
      rw [Nat.succ_mul] at this
      omega) w
    exact Wg.mem f.den_pos (by omega) w2 (by rw [part_len, shRows_len]; exact hn)
theorem sh_rp {N A n : Nat} {f : Rat} {l : List Rat} (h : RpL N A l) (hn : l.length ≤ n + 1) : RpL (N * f.den ^ n) (A * (f.den + (n + 1) * f.num.natAbs) ^ n) (shR l f) := by
  have e : shR l f = part f (shRows f l (l.length - 1)) (l.length - 1) ∨ True := .inr trivial
  have h1 := sh_all (f := f) h hn (l.length - 1) l.length (by omega)
  have e : part f (shRows f l (l.length - 1)) l.length = shR l f := by
    unfold part
    rw [List.take_of_length_le (by rw [shRows_len]; omega), List.drop_eq_nil_of_le (by rw [shRows_len]; omega)]
    simp [hor, shR]
  rw [e] at h1
  exact h1
section
variable {k : KA} {x : KX}
theorem shifted_okC {l : List Rat} {f : Rat} {C b : Nat} (hC : ∀ i m, i < l.length → BdL C (part f (shRows f l i) m)) (hf : Bd b f) (hz : 2 * C + b + 10 < 8000) (hn : l.length ≤ 400) (hk : k (.d (PT (shR l f)))) : F_shifted [.d (PT l), .d (Fr f)] k x := by
  simp [F_shifted, runF, b_shifted, PT, PL_len, RngOk]
  refine ⟨⟨by omega, by omega⟩, ?_⟩
  let I : Nat → List SV → Prop := fun i ρ => ∃ u v, ρ = [.d (PT l), .d (Fr f), .own (PL (shRows f l i)), u, v]
  refine loop_inv I (i := 0) ⟨.un, .un, by simp [PT, shRows]⟩ (fun i y ρ hy hI => ?_) fun ρ hI => ?_
  · obtain ⟨u, v, rfl⟩ := hI
    try simp only [Nat.zero_add]
    obtain ⟨hi, rfl⟩ := rng_get hy
    have hi2 : i + 1 < l.length := by omega
    refine ⟨_, rfl, fun kf h => ?_⟩
    try simp only [Nat.zero_add] at h
    have hCi := hC i
    generalize hs : shRows f l i = s at *
    have hsl : s.length = l.length := by rw [← hs, shRows_len]
    simp [PL_len]
    refine ⟨_, rng_down ⟨by omega, by omega⟩ ⟨by omega, by omega⟩, ?_⟩
    let J : Nat → List SV → Prop := fun j ρ => ∃ v, ρ = [.d (PT l), .d (Fr f), .own (PL (part f s (l.length - 1 - j))), .d (.int i), v]
    refine loop_inv J (i := 0) ⟨v, ?_⟩ (fun j z ρ hz' hJ => ?_) fun ρ hJ => ?_
    · have hp : part f s (l.length - 1 - 0) = s := by
        have h1 : s.drop (l.length - 1) = [s[l.length - 1]'(by omega)] := by
          rw [List.drop_eq_getElem_cons (by omega), List.drop_eq_nil_of_le (by omega)]
        unfold part
        rw [Nat.sub_zero, h1]
        simp only [hor, List.headD_nil, Rat.zero_mul, Rat.add_zero]
        rw [← h1, List.take_append_drop]
      rw [hp]
      try simp [PT]
    · obtain ⟨v, rfl⟩ := hJ
      try simp only [Nat.zero_add]
      obtain ⟨hj, rfl⟩ := rng_get hz'
      obtain ⟨m, hm⟩ : ∃ m : Nat, l.length - 1 - j = m + 1 := ⟨l.length - 2 - j, by omega⟩
      have hm2 : (s.length : Int) - 2 + (j : Int) * -1 = (m : Int) := by omega
      rw [hm2]
      refine ⟨_, rfl, fun kf2 h2 => ?_⟩
      rw [hm]
      obtain ⟨c, d, g1, g2, g3, g4, g5⟩ := part_step f s m (by omega)
      have hcb : Bd C c := (hCi (m + 1) (by omega)).get g1
      have hdb : Bd C d := (hCi (m + 1) (by omega)).get g2
      rw [x_cons]
      refine put_ok (l := part f s (m + 1)) (m := m) rfl (by rw [part_len]; omega) (c + d * f) (fun ka hka => ?_) (fun ka hka => ?_) ?_
      · simpa using hka
      · simp [fe_shifted]
        refine idx_b (PL_at g1) ?_
        simp
        have e1 : (m : Int) + 1 = ((m + 1 : Nat) : Int) := by omega
        rw [e1]
        refine idx_b (PL_at g2) ?_
        simp
        refine times_ok hdb hf (by omega) ?_
        simp
        exact plus_ok hcb (hdb.mul hf) (by omega) (by simpa using hka)
      · rw [g5]
        simp
        refine h2 _ ⟨.d (.int m), ?_⟩
        have e2 : l.length - 1 - (j + 1) = m := by omega
        rw [e2]
    · obtain ⟨v, rfl⟩ := hJ
      refine h _ ⟨.d (.int i), v, ?_⟩
      rw [rngL_length, shRows, hs]
      have e3 : l.length - 1 - (0 + ((s.length : Int) - 2 - ((i : Int) - 1)).toNat) = i := by omega
      rw [e3]
      rfl
  · obtain ⟨u, v, rfl⟩ := hI
    rw [rngL_length]
    simpa [shR, PT] using hk
end
end Un
end
section
/-! Un: what can be shown (repr), by size. -/
namespace Un
open PySem Pg
structure Sw (n e : Nat) (d : PyData) : Prop where
  sh : d.showable = true
  nd : d.hasDict = false
  dp : d.depth ≤ e
  ln : d.shown.length ≤ n
theorem Sw.mono {n e n' e' : Nat} {d : PyData} (h : Sw n e d) (hn : n ≤ n') (he : e ≤ e') : Sw n' e' d := ⟨h.sh, h.nd, Nat.le_trans h.dp he, Nat.le_trans h.ln hn⟩
theorem Sw.ok {n e : Nat} {d : PyData} (h : Sw n e d) (hn : n ≤ 16000000) (he : e ≤ 64) : ShowOk d := ⟨h.sh, h.nd, Nat.le_trans h.dp he, Nat.le_trans h.ln (by rw [sizeLine_eq]; omega)⟩
theorem Sw.int {i : Int} (h : i.natAbs < 2 ^ 1900) : Sw 1921 0 (.int i) := by
  have hl : i.natAbs.log2 < 1920 := by
    by_cases h0 : i.natAbs = 0
    · rw [h0]
      decide
    · exact Nat.lt_of_lt_of_le ((Nat.log2_lt h0).mpr h) (by decide)
  exact ⟨by simpa [PyData.showable] using hl, by simp [PyData.hasDict], by simp [PyData.depth], PyProof.Rows.int_text_len_1921 hl⟩
theorem sw_all {n e : Nat} : ∀ {ds : List PyData}, (∀ d ∈ ds, Sw n e d) → PyData.showableAll ds = true ∧ PyData.hasDictAll ds = false ∧ PyData.depthAll ds ≤ e ∧ ((PyData.shownAll ds).map (·.length)).sum ≤ ds.length * n ∧ (PyData.shownAll ds).length = ds.length
  | [], _ => ⟨rfl, rfl, by simp [PyData.depthAll], by simp [PyData.shownAll], rfl⟩
  | d :: ds, h => by
    obtain ⟨h1, h2, h3, h4, h5⟩ := sw_all fun x hx => h x (List.mem_cons_of_mem _ hx)
    have hd := h d (List.mem_cons_self ..)
    refine ⟨by simp [PyData.showableAll, hd.sh, h1], by simp [PyData.hasDictAll, hd.nd, h2], ?_, ?_, ?_⟩
    · simp only [PyData.depthAll]
      have := hd.dp
      omega
    · simp only [PyData.shownAll, List.map_cons, List.sum_cons, List.length_cons, Nat.succ_mul]
      have := hd.ln
      omega
    · simp only [PyData.shownAll, List.length_cons, h5]
theorem Sw.list {n e m : Nat} {ds : List PyData} (h : ∀ d ∈ ds, Sw n e d) (hm : ds.length ≤ m) : Sw (m * (n + 2) + 3) (e + 1) (.list ds) := by
  obtain ⟨h1, h2, h3, h4, h5⟩ := sw_all h
  refine ⟨by simpa [PyData.showable] using h1, by simpa [PyData.hasDict] using h2, by simp only [PyData.depth]; omega, ?_⟩
  have e := listText_len_le (PyData.shownAll ds)
  show (listText (PyData.shownAll ds)).length ≤ _
  rw [h5] at e
  have h6 : ds.length * (n + 2) ≤ m * (n + 2) := Nat.mul_le_mul_right _ hm
  rw [Nat.mul_add] at h6
  omega
theorem Sw.tuple {n e m : Nat} {ds : List PyData} (h : ∀ d ∈ ds, Sw n e d) (hm : ds.length ≤ m) : Sw (m * (n + 2) + 3) (e + 1) (.tuple ds) := by
  obtain ⟨h1, h2, h3, h4, h5⟩ := sw_all h
  refine ⟨by simpa [PyData.showable] using h1, by simpa [PyData.hasDict] using h2, by simp only [PyData.depth]; omega, ?_⟩
  have e := tupleText_len_le (PyData.shownAll ds)
  show (tupleText (PyData.shownAll ds)).length ≤ _
  rw [h5] at e
  have h6 : ds.length * (n + 2) ≤ m * (n + 2) := Nat.mul_le_mul_right _ hm
  rw [Nat.mul_add] at h6
  omega
theorem Sw.fr {q : Rat} {b : Nat} (h : Bd b q) (hb : b ≤ 1900) : Sw 3900 1 (Fr q) := by
  have h1 := (h.mono hb).1
  have h2 := (h.mono hb).dn
  refine (Sw.tuple (n := 1921) (e := 0) (m := 2) (fun d hd => ?_) (by simp)).mono (by omega) (by omega)
  simp at hd
  rcases hd with rfl | rfl
  · exact Sw.int h1
  · exact Sw.int h2
theorem Sw.pt {l : List Rat} {b m : Nat} (h : BdL b l) (hb : b ≤ 1900) (hm : l.length ≤ m) : Sw (m * 3902 + 3) 2 (PT l) := by
  refine Sw.tuple (n := 3900) (e := 1) (fun d hd => ?_) (by rw [PL_len]; exact hm)
  unfold PL at hd
  obtain ⟨q, hq, rfl⟩ := List.mem_map.mp hd
  exact Sw.fr (h q hq) hb
section
variable {k : KA}
@[simp] theorem repr_n {xs : List PyData} : w1 .repr (.new xs) k ↔ ShowOk (.list xs) ∧ k (.d (.str (PyData.shown (.list xs)))) := ⟨fun ⟨_, h1, h⟩ => by cases h1; exact h, fun h => ⟨_, rfl, h⟩⟩
@[simp] theorem repr_b {xs : List PyData} : w1 .repr (.bor xs) k ↔ ShowOk (.list xs) ∧ k (.d (.str (PyData.shown (.list xs)))) := ⟨fun ⟨_, h1, h⟩ => by cases h1; exact h, fun h => ⟨_, rfl, h⟩⟩
@[simp] theorem repr_d {d : PyData} : w1 .repr (.d d) k ↔ ShowOk d ∧ k (.d (.str d.shown)) := ⟨fun ⟨_, h1, h⟩ => by cases h1; exact h, fun h => ⟨_, rfl, h⟩⟩
@[simp] theorem eq_s {a b : Str} : w2 .eq (.d (.str a)) (.d (.str b)) k ↔ k (.d (.bool (decide (a = b)))) := ⟨fun ⟨_, _, h1, h2, h⟩ => by cases h1; cases h2; exact h, fun h => ⟨_, _, rfl, rfl, h⟩⟩
@[simp] theorem ne_s {a b : Str} : w2 .ne (.d (.str a)) (.d (.str b)) k ↔ k (.d (.bool (!decide (a = b)))) := ⟨fun ⟨_, _, h1, h2, h⟩ => by cases h1; cases h2; exact h, fun h => ⟨_, _, rfl, rfl, h⟩⟩
end
theorem list_Fr {b : Nat} : ∀ {ys : List PyData}, (∀ y ∈ ys, ∃ q, Bd b q ∧ y = Fr q) → ∃ l, ys = PL l ∧ BdL b l
  | [], _ => ⟨[], rfl, fun _ h => nomatch h⟩
  | y :: ys, h => by
    obtain ⟨q, hq, rfl⟩ := h y (List.mem_cons_self ..)
    obtain ⟨l, rfl, hl⟩ := list_Fr fun z hz => h z (List.mem_cons_of_mem _ hz)
    exact ⟨q :: l, rfl, fun r hr => by
      rcases List.mem_cons.mp hr with rfl | hr
      · exact hq
      · exact hl r hr⟩
theorem ix_last (n : Nat) : ixOf (n + 1) (-1) = some n := by
  have h : ¬ (0 : Int) ≤ -1 := by omega
  have h2 : -((n + 1 : Nat) : Int) ≤ -1 := by omega
  unfold ixOf L2.ixN
  rw [if_neg h, if_pos h2]
  congr 1
  omega
theorem idx_last {xs : List PyData} {v : PyData} {k : KA} (hk : k (.d v)) : w2 .idx (.bor (xs ++ [v])) (.d (.int (-1))) k := ⟨_, _, rfl, rfl, v, by
  have e : (xs ++ [v]).length = xs.length + 1 := by simp
  unfold atIx L2.atI
  have := ix_last xs.length
  unfold ixOf at this
  rw [e, this]
  simp, hk⟩
theorem idx_lastT {xs : List PyData} {v : PyData} {k : KA} (hk : k (.d v)) : w2 .idx (.d (.tuple (xs ++ [v]))) (.d (.int (-1))) k := ⟨_, _, rfl, rfl, v, by
  have e : (xs ++ [v]).length = xs.length + 1 := by simp
  unfold atIx L2.atI
  have := ix_last xs.length
  unfold ixOf at this
  rw [e, this]
  simp, hk⟩
theorem divInt_ne {t b : Int} (ht : t ≠ 0) (hb : b ≠ 0) : Rat.divInt t b ≠ 0 := fun h => by
  have e : Rat.divInt t b = Rat.divInt 0 1 := h.trans (by decide)
  rw [Rat.divInt_eq_divInt_iff hb (by decide)] at e
  omega
theorem cmp_all {tg : Tg} {e : List SV → KA → Prop} {ρ : List SV} {P : PyData → Prop} : ∀ {xs acc : List PyData} {k : List PyData → Prop}, (∀ x ∈ xs, ∃ ρ1, tgt tg x ρ = some ρ1 ∧ ∀ ka : KA, (∀ y, P y → ka (.d y)) → e ρ1 ka) →
    acc.length + xs.length ≤ sizeLine → (∀ ys, ys.length = xs.length → (∀ y ∈ ys, P y) → k (acc ++ ys)) → cmpW tg none e ρ xs acc k
  | [], acc, k, _, _, hk => by
    have := hk [] rfl (fun y h => nomatch h)
    rw [List.append_nil] at this
    exact this
  | x :: xs, acc, k, h, hz, hk => by
    obtain ⟨ρ1, h1, h2⟩ := h x (List.mem_cons_self ..)
    rw [List.length_cons] at hz
    refine ⟨ρ1, h1, h2 _ fun y hy => ⟨y, rfl, by omega, ?_⟩⟩
    refine cmp_all (fun z hz => h z (List.mem_cons_of_mem _ hz)) (by rw [List.length_append]; simp only [List.length_cons, List.length_nil]; omega) fun ys hl hp => ?_
    rw [List.append_assoc]
    exact hk (y :: ys) (by rw [List.length_cons, List.length_cons, hl]) fun z hz => by
      rcases List.mem_cons.mp hz with rfl | hz
      · exact hy
      · exact hp z hz
end Un
end
section
/-! Un: sizes and lengths of what the program's polynomials come to. -/
namespace Un
open PySem Pg
@[simp] theorem seq2_ll {xs ys : List PyData} {k : List PyData → List PyData → Prop} : seq2W (.d (.list xs)) (.d (.list ys)) k ↔ k xs ys := ⟨fun ⟨_, _, h1, h2, h⟩ => by cases h1; cases h2; exact h, fun h => ⟨_, _, rfl, rfl, h⟩⟩
@[simp] theorem seq2_ln {xs ys : List PyData} {k : List PyData → List PyData → Prop} : seq2W (.d (.list xs)) (.new ys) k ↔ k xs ys := ⟨fun ⟨_, _, h1, h2, h⟩ => by cases h1; cases h2; exact h, fun h => ⟨_, _, rfl, rfl, h⟩⟩
theorem trim_mem : ∀ {l : List Rat} {q : Rat}, q ∈ trimR l → q ∈ l
  | [], q, h => by simp [trimR] at h
  | a :: l, q, h => by
    rw [trimR] at h
    split at h
    · simp at h
    · rcases List.mem_cons.mp h with rfl | h
      · exact List.mem_cons_self ..
      · exact List.mem_cons_of_mem _ (trim_mem h)
theorem trim_bd {l : List Rat} {a : Nat} (h : BdL a l) : BdL a (trimR l) := fun q hq => h q (trim_mem hq)
theorem sl_bd {l : List Rat} {a : Nat} (h : BdL a l) (hn : l.length ≤ 900) : BdL (a + 10) (slR l) := by
  intro q hq
  obtain ⟨i, hi⟩ := List.getElem?_of_mem hq
  have hl : i < (slR l).length := (List.getElem?_eq_some_iff.mp hi).1
  rw [sl_len] at hl
  have e := cf_get hi
  rw [cf_sl] at e
  rw [← e]
  have h2 : l[i + 1]? = some l[i + 1] := List.getElem?_eq_getElem (by omega)
  rw [cf_get h2]
  exact (h.get h2).mul (bd_nat (b := 10) (by omega) (by decide))
theorem hp_bd {l : List Rat} {a : Nat} (h : BdL a l) (hn : l.length ≤ 900) : BdL (a + 10) (hpR l) := by
  intro q hq
  obtain ⟨i, hi⟩ := List.getElem?_of_mem hq
  have hl : i < (hpR l).length := (List.getElem?_eq_some_iff.mp hi).1
  rw [hp_len] at hl
  have e := cf_get hi
  cases i with
  | zero =>
    rw [cf_hp0] at e
    rw [← e]
    exact bd0.mono (by omega)
  | succ i =>
    rw [cf_hp] at e
    rw [← e]
    have hl' : i < l.length := by split at hl <;> omega
    have h2 : l[i]? = some l[i] := List.getElem?_eq_getElem hl'
    rw [cf_get h2]
    exact (h.get h2).mul (bd_inv (n := i) (b := 10) (by show i + 1 < 1024; omega))
theorem addL_bd {a b : Nat} : ∀ {p q : List Rat}, BdL a p → BdL b q → BdL (a + b + 1) (addL p q)
  | [], q, _, h => fun r hr => (h r (by simpa [addL] using hr)).mono (by omega)
  | a :: p, [], h, _ => fun r hr => (h r (by simpa [addL] using hr)).mono (by omega)
  | a :: p, b :: q, h, g => fun r hr => by
    rw [addL] at hr
    rcases List.mem_cons.mp hr with rfl | hr
    · exact h.head.add g.head
    · exact addL_bd h.tail g.tail r hr
theorem add_bd {a b : Nat} {p q : List Rat} (h : BdL a p) (g : BdL b q) : BdL (a + b + 1) (addR p q) := trim_bd (addL_bd h g)
theorem sc_bd {a b : Nat} {p : List Rat} {f : Rat} (h : BdL a p) (g : Bd b f) : BdL (a + b) (scR p f) := trim_bd fun q hq => by
  obtain ⟨r, hr, rfl⟩ := List.mem_map.mp hq
  exact (h r hr).mul g
theorem str_bd {a b : Nat} {p : List Rat} {f : Rat} (h : BdL a p) (g : Bd b f) : BdL (a + (p.length * b + 1)) (strR p f) := trim_bd fun q hq => by
  obtain ⟨i, hi⟩ := List.getElem?_of_mem hq
  have hl : i < (stL f 0 p).length := (List.getElem?_eq_some_iff.mp hi).1
  rw [stL_len] at hl
  have e := cf_get hi
  rw [cf_st] at e
  have h2 : p[i]? = some p[i] := List.getElem?_eq_getElem hl
  rw [← e, cf_get h2]
  refine (h.get h2).mul ((pw_bd g (0 + i)).mono ?_)
  have := Nat.mul_le_mul_right b (show 0 + i ≤ p.length by omega)
  omega
theorem mul_bd {a b : Nat} {p q : List Rat} (h : BdL a p) (g : BdL b q) : BdL (1 + p.length * (a + b + 1)) (mulR p q) := trim_bd (mulAcc_bd g h fun r hr => by rw [List.eq_of_mem_replicate hr]; exact bd0)
theorem sh_bd {a b : Nat} {p : List Rat} {f : Rat} (h : BdL a p) (g : Bd b f) (hn : 0 < p.length) : BdL (shBits p.length a b p.length) (shR p f) := (shRows_bd g h hn _).mono (shBits_le hn (by omega))
theorem addL_len : ∀ p q : List Rat, (addL p q).length = max p.length q.length
  | [], q => by simp [addL]
  | a :: p, [] => by simp [addL]
  | a :: p, b :: q => by simp only [addL, List.length_cons, addL_len p q]; omega
theorem add_len (p q : List Rat) : (addR p q).length ≤ max p.length q.length := Nat.le_trans (trim_len _) (Nat.le_of_eq (addL_len p q))
theorem sc_len (p : List Rat) (f : Rat) : (scR p f).length ≤ p.length := Nat.le_trans (trim_len _) (by simp)
theorem str_len (p : List Rat) (f : Rat) : (strR p f).length ≤ p.length := Nat.le_trans (trim_len _) (by rw [stL_len]; exact Nat.le_refl _)
theorem mul_len (p q : List Rat) : (mulR p q).length ≤ p.length + q.length := Nat.le_trans (trim_len _) (by rw [mulAcc_len, List.length_replicate]; omega)
theorem sh_len (p : List Rat) (f : Rat) : (shR p f).length = p.length := shRows_len f p _
theorem hp_len' (l : List Rat) : (hpR l).length ≤ l.length + 1 := by rw [hp_len]; split <;> omega
/-! ### to be shown -/
abbrev Pw (d : PyData) : Prop := Sw 80000 2 d
theorem pw_pt {l : List Rat} {b : Nat} (h : BdL b l) (hb : b ≤ 1900) (hn : l.length ≤ 20) : Pw (PT l) := (Sw.pt h hb hn).mono (by omega) (by omega)
theorem pw_fr {q : Rat} {b : Nat} (h : Bd b q) (hb : b ≤ 1900) : Pw (Fr q) := (Sw.fr h hb).mono (by omega) (by omega)
theorem show_ok {ds : List PyData} (h : ∀ d ∈ ds, Pw d) (hn : ds.length ≤ 20) : ShowOk (.list ds) := (Sw.list h hn).ok (by omega) (by omega)

theorem szlt {n : Nat} (h : n < 1000) : (n < sizeLine) = True := eq_true (Nat.lt_of_lt_of_le h (by decide))
theorem e0 : PyData.tuple [] = PT [] := rfl
theorem eF : PyData.tuple [.int 0, .int 1] = Fr 0 := rfl
theorem eF1 : PyData.tuple [.int 1, .int 1] = Fr 1 := rfl
theorem PT_cons {q : Rat} {l : List Rat} : PyData.tuple (Fr q :: PL l) = PT (q :: l) := rfl
section
variable {k : KA} {l m : List Rat} {q r : Rat}
@[simp] theorem eq_PT : w2 .eq (.d (PT l)) (.d (PT m)) k ↔ k (.d (.bool (decide (l = m)))) := by
  constructor
  · rintro ⟨_, _, h1, h2, h⟩
    cases h1
    cases h2
    obtain ⟨_, _, h⟩ := h
    rwa [eqv_PT] at h
  · intro h
    exact ⟨_, _, rfl, rfl, shp_PT _, shp_PT _, by rw [eqv_PT]; exact h⟩
@[simp] theorem ne_PT : w2 .ne (.d (PT l)) (.d (PT m)) k ↔ k (.d (.bool (!decide (l = m)))) := by
  constructor
  · rintro ⟨_, _, h1, h2, h⟩
    cases h1
    cases h2
    obtain ⟨_, _, h⟩ := h
    rwa [eqv_PT] at h
  · intro h
    exact ⟨_, _, rfl, rfl, shp_PT _, shp_PT _, by rw [eqv_PT]; exact h⟩
@[simp] theorem eq_PT0 : w2 .eq (.d (PT l)) (.d (.tuple [])) k ↔ k (.d (.bool (decide (l = [])))) := eq_PT (m := [])
@[simp] theorem ne_PT0 : w2 .ne (.d (PT l)) (.d (.tuple [])) k ↔ k (.d (.bool (!decide (l = [])))) := ne_PT (m := [])
@[simp] theorem eq_Fr : w2 .eq (.d (Fr q)) (.d (Fr r)) k ↔ k (.d (.bool (decide (q = r)))) := by
  constructor
  · rintro ⟨_, _, h1, h2, h⟩
    cases h1
    cases h2
    obtain ⟨_, _, h⟩ := h
    rwa [eqv_Fr] at h
  · intro h
    exact ⟨_, _, rfl, rfl, shp_Fr _, shp_Fr _, by rw [eqv_Fr]; exact h⟩
@[simp] theorem ne_Fr : w2 .ne (.d (Fr q)) (.d (Fr r)) k ↔ k (.d (.bool (!decide (q = r)))) := by
  constructor
  · rintro ⟨_, _, h1, h2, h⟩
    cases h1
    cases h2
    obtain ⟨_, _, h⟩ := h
    rwa [eqv_Fr] at h
  · intro h
    exact ⟨_, _, rfl, rfl, shp_Fr _, shp_Fr _, by rw [eqv_Fr]; exact h⟩
@[simp] theorem len_PT : w1 .len (.d (PT l)) k ↔ k (.d (.int l.length)) := by
  unfold PT
  rw [len_t, PL_len]
@[simp] theorem fr_0 : w2 .idx (.d (Fr q)) (.d (.int 0)) k ↔ k (.d (.int q.num)) := idx0
@[simp] theorem fr_1 : w2 .idx (.d (Fr q)) (.d (.int 1)) k ↔ k (.d (.int q.den)) := idx1
end
/-- a comprehension's items, each by its source -/
theorem cmp_rel {tg : Tg} {e : List SV → KA → Prop} {ρ : List SV} {R : PyData → PyData → Prop} : ∀ {xs acc : List PyData} {k : List PyData → Prop}, (∀ x ∈ xs, ∃ ρ1, tgt tg x ρ = some ρ1 ∧ ∀ ka : KA, (∀ a y, a.emb? = some y → R x y → ka a) → e ρ1 ka) →
    acc.length + xs.length ≤ sizeLine → (∀ ys, ys.length = xs.length → (∀ (i : Nat) x y, xs[i]? = some x → ys[i]? = some y → R x y) → k (acc ++ ys)) → cmpW tg none e ρ xs acc k
  | [], acc, k, _, _, hk => by
    have := hk [] rfl (fun i x y h _ => by simp at h)
    rw [List.append_nil] at this
    exact this
  | x :: xs, acc, k, h, hz, hk => by
    obtain ⟨ρ1, h1, h2⟩ := h x (List.mem_cons_self ..)
    rw [List.length_cons] at hz
    refine ⟨ρ1, h1, h2 _ fun a y ha hy => ⟨y, ha, by omega, ?_⟩⟩
    refine cmp_rel (R := R) (fun z hz => h z (List.mem_cons_of_mem _ hz)) (by rw [List.length_append]; simp only [List.length_cons, List.length_nil]; omega) fun ys hl hp => ?_
    rw [List.append_assoc]
    exact hk (y :: ys) (by rw [List.length_cons, List.length_cons, hl]) fun i x' y' e1 e2 => by
      cases i with
      | zero =>
        cases e1
        cases e2
        exact hy
      | succ i => exact hp i x' y' (by simpa using e1) (by simpa using e2)
theorem choose_list {α : Type} {f : α → PyData} : ∀ {ys : List PyData} {Q : Nat → α → Prop}, (∀ (i : Nat) y, ys[i]? = some y → ∃ w, y = f w ∧ Q i w) → ∃ W : List α, ys = W.map f ∧ ∀ (i : Nat) w, W[i]? = some w → Q i w
  | [], Q, _ => ⟨[], rfl, fun i w h => by simp at h⟩
  | y :: ys, Q, h => by
    obtain ⟨w, rfl, hw⟩ := h 0 y rfl
    obtain ⟨W, rfl, hW⟩ := choose_list (ys := ys) (Q := fun i => Q (i + 1)) fun i y e => h (i + 1) y (by simpa using e)
    exact ⟨w :: W, rfl, fun i w' e => by
      cases i with
      | zero =>
        cases e
        exact hw
      | succ i => exact hW i w' (by simpa using e)⟩
end Un
end
section
namespace Pg
open PySem Un
abbrev n_is_integer : List Str := ["value"]
def b_is_integer : Sm := (.cons (.ret (.band (.un .isInt (.var 0)) (.bnot (.un .isBool (.var 0))))) .nil)
def fe_is_integer : FE := fun _ _ _ _ => False
@[irreducible] def F_is_integer : List SV → KA → KX → Prop := runF fe_is_integer 1 1 b_is_integer
abbrev n_is_fraction : List Str := ["value"]
def b_is_fraction : Sm := (.cons (.ifs (.bor (.bnot (.un .isTuple (.var 0))) (.bor (.bin .ne (.un .len (.var 0)) (.dat (.int 2))) (.bor (.bnot (.call 37 [0] (.cons (.bin .idx (.var 0) (.dat (.int 0))) .nil) .nil)) (.bnot (.call 37 [0] (.cons (.bin .idx (.var 0) (.dat (.int 1))) .nil) .nil))))) (.cons (.ret (.dat (.bool false))) .nil) .nil) (.cons (.ret (.band (.bin .gt (.bin .idx (.var 0) (.dat (.int 1))) (.dat (.int 0))) (.bin .eq (.fn2 .gcd (.bin .idx (.var 0) (.dat (.int 0))) (.bin .idx (.var 0) (.dat (.int 1)))) (.dat (.int 1))))) .nil))
def fe_is_fraction : FE := fun f => match f with
  | 37 => F_is_integer
  | _ => fun _ _ _ => False
@[irreducible] def F_is_fraction : List SV → KA → KX → Prop := runF fe_is_fraction 1 1 b_is_fraction
abbrev n_less : List Str := ["f", "g"]
def b_less : Sm := (.cons (.ret (.call 2 [0, 1] (.cons (.var 0) (.cons (.tup (.cons (.bin .sub (.dat (.int 0)) (.bin .idx (.var 1) (.dat (.int 0)))) (.cons (.bin .idx (.var 1) (.dat (.int 1))) .nil))) .nil)) .nil)) .nil)
def fe_less : FE := fun f => match f with
  | 2 => F_plus
  | _ => fun _ _ _ => False
@[irreducible] def F_less : List SV → KA → KX → Prop := runF fe_less 2 2 b_less
abbrev n_over : List Str := ["f", "g"]
def b_over : Sm := (.cons (.ifs (.bin .eq (.bin .idx (.var 1) (.dat (.int 0))) (.dat (.int 0))) (.cons (.rs 3) .nil) .nil) (.cons (.ret (.call 1 [0, 1] (.cons (.bin .mul (.bin .idx (.var 0) (.dat (.int 0))) (.bin .idx (.var 1) (.dat (.int 1)))) (.cons (.bin .mul (.bin .idx (.var 0) (.dat (.int 1))) (.bin .idx (.var 1) (.dat (.int 0)))) .nil)) .nil)) .nil))
def fe_over : FE := fun f => match f with
  | 1 => F_lowest
  | _ => fun _ _ _ => False
@[irreducible] def F_over : List SV → KA → KX → Prop := runF fe_over 2 2 b_over
abbrev n_order : List Str := ["f", "g", "one", "other"]
def b_order : Sm := (.cons (.par [2, 3] (.cons (.bin .mul (.bin .idx (.var 0) (.dat (.int 0))) (.bin .idx (.var 1) (.dat (.int 1)))) (.cons (.bin .mul (.bin .idx (.var 1) (.dat (.int 0))) (.bin .idx (.var 0) (.dat (.int 1)))) .nil))) (.cons (.ret (.bin .sub (.un .int (.bin .gt (.var 2) (.var 3))) (.un .int (.bin .lt (.var 2) (.var 3))))) .nil))
def fe_order : FE := fun _ _ _ _ => False
@[irreducible] def F_order : List SV → KA → KX → Prop := runF fe_order 2 4 b_order
def t1_is_integer : Sm := .nil
def t0_is_integer : Sm := .cons (.ret (.band (.un .isInt (.var 0)) (.bnot (.un .isBool (.var 0))))) t1_is_integer
theorem bt_is_integer : b_is_integer = t0_is_integer := rfl
def t2_is_fraction : Sm := .nil
def t1_is_fraction : Sm := .cons (.ret (.band (.bin .gt (.bin .idx (.var 0) (.dat (.int 1))) (.dat (.int 0))) (.bin .eq (.fn2 .gcd (.bin .idx (.var 0) (.dat (.int 0))) (.bin .idx (.var 0) (.dat (.int 1)))) (.dat (.int 1))))) t2_is_fraction
def t0_is_fraction : Sm := .cons (.ifs (.bor (.bnot (.un .isTuple (.var 0))) (.bor (.bin .ne (.un .len (.var 0)) (.dat (.int 2))) (.bor (.bnot (.call 37 [0] (.cons (.bin .idx (.var 0) (.dat (.int 0))) .nil) .nil)) (.bnot (.call 37 [0] (.cons (.bin .idx (.var 0) (.dat (.int 1))) .nil) .nil))))) (.cons (.ret (.dat (.bool false))) .nil) .nil) t1_is_fraction
theorem bt_is_fraction : b_is_fraction = t0_is_fraction := rfl
def t1_less : Sm := .nil
def t0_less : Sm := .cons (.ret (.call 2 [0, 1] (.cons (.var 0) (.cons (.tup (.cons (.bin .sub (.dat (.int 0)) (.bin .idx (.var 1) (.dat (.int 0)))) (.cons (.bin .idx (.var 1) (.dat (.int 1))) .nil))) .nil)) .nil)) t1_less
theorem bt_less : b_less = t0_less := rfl
def t2_over : Sm := .nil
def t1_over : Sm := .cons (.ret (.call 1 [0, 1] (.cons (.bin .mul (.bin .idx (.var 0) (.dat (.int 0))) (.bin .idx (.var 1) (.dat (.int 1)))) (.cons (.bin .mul (.bin .idx (.var 0) (.dat (.int 1))) (.bin .idx (.var 1) (.dat (.int 0)))) .nil)) .nil)) t2_over
def t0_over : Sm := .cons (.ifs (.bin .eq (.bin .idx (.var 1) (.dat (.int 0))) (.dat (.int 0))) (.cons (.rs 3) .nil) .nil) t1_over
theorem bt_over : b_over = t0_over := rfl
def t2_order : Sm := .nil
def t1_order : Sm := .cons (.ret (.bin .sub (.un .int (.bin .gt (.var 2) (.var 3))) (.un .int (.bin .lt (.var 2) (.var 3))))) t2_order
def t0_order : Sm := .cons (.par [2, 3] (.cons (.bin .mul (.bin .idx (.var 0) (.dat (.int 0))) (.bin .idx (.var 1) (.dat (.int 1)))) (.cons (.bin .mul (.bin .idx (.var 1) (.dat (.int 0))) (.bin .idx (.var 0) (.dat (.int 1)))) .nil))) t1_order
theorem bt_order : b_order = t0_order := rfl
end Pg
end
section
namespace Pg
open PySem Un
abbrev n_is_so : List Str := ["word", "sign"]
def b_is_so : Sm := (.cons (.ifs (.bin .eq (.var 0) (.dat (.str "<"))) (.cons (.ret (.bin .lt (.var 1) (.dat (.int 0)))) .nil) .nil) (.cons (.ret (.ife (.bin .eq (.var 0) (.dat (.str "<="))) (.bin .le (.var 1) (.dat (.int 0))) (.bin .eq (.var 1) (.dat (.int 0))))) .nil))
def fe_is_so : FE := fun _ _ _ _ => False
@[irreducible] def F_is_so : List SV → KA → KX → Prop := runF fe_is_so 2 2 b_is_so
abbrev n_form_at : List Str := ["form", "numbers", "t", "found", "factor", "number"]
def b_form_at : Sm := (.cons (.set 3 (.call 2 [0, 1] (.cons (.bin .idx (.var 0) (.dat (.int 1))) (.cons (.call 3 [0, 1] (.cons (.bin .idx (.var 0) (.dat (.int 2))) (.cons (.var 2) .nil)) .nil) .nil)) .nil)) (.cons (.loop (.tp [4, 5]) (.zip2 (.bin .idx (.var 0) (.dat (.int 0))) (.var 1)) (.cons (.set 3 (.call 2 [0, 1] (.cons (.var 3) (.cons (.call 3 [0, 1] (.cons (.var 4) (.cons (.var 5) .nil)) .nil) .nil)) .nil)) .nil)) (.cons (.ret (.var 3)) .nil)))
def fe_form_at : FE := fun f => match f with
  | 2 => F_plus
  | 3 => F_times
  | _ => fun _ _ _ => False
@[irreducible] def F_form_at : List SV → KA → KX → Prop := runF fe_form_at 3 6 b_form_at
abbrev n__line_at : List Str := ["line", "values", "t", "word", "is_first", "found", "one", "other", "factor", "name"]
def b__line_at : Sm := (.cons (.set 3 (.bin .idx (.var 0) (.dat (.int 0)))) (.cons (.ifs (.bin .eq (.var 3) (.dat (.str "sum"))) (.cons (.set 5 (.bin .idx (.var 0) (.dat (.int 2)))) (.cons (.loop (.tp [8, 9]) (.bin .idx (.var 0) (.dat (.int 1))) (.cons (.set 5 (.call 2 [0, 1] (.cons (.var 5) (.cons (.call 3 [0, 1] (.cons (.var 8) (.cons (.bin .idx (.var 1) (.var 9)) .nil)) .nil) .nil)) .nil)) .nil)) (.cons (.ret (.var 5)) .nil))) .nil) (.cons (.ifs (.bin .eq (.var 3) (.dat (.str "shift"))) (.cons (.ret (.call 2 [0, 1] (.cons (.bin .idx (.var 1) (.bin .idx (.var 0) (.dat (.int 1)))) (.cons (.call 3 [0, 1] (.cons (.bin .idx (.var 0) (.dat (.int 2))) (.cons (.var 2) .nil)) .nil) .nil)) .nil)) .nil) .nil) (.cons (.ifs (.bin .eq (.var 3) (.dat (.str "choice"))) (.cons (.ret (.bin .idx (.var 1) (.ife (.call 52 [0, 1] (.cons (.bin .idx (.var 0) (.dat (.int 2))) (.cons (.call 41 [0, 1] (.cons (.bin .idx (.var 1) (.bin .idx (.var 0) (.dat (.int 1)))) (.cons (.bin .idx (.var 1) (.bin .idx (.var 0) (.dat (.int 3)))) .nil)) .nil) .nil)) .nil) (.bin .idx (.var 0) (.dat (.int 4))) (.bin .idx (.var 0) (.dat (.int 5)))))) .nil) .nil) (.cons (.par [6, 7] (.cons (.bin .idx (.var 1) (.bin .idx (.var 0) (.dat (.int 1)))) (.cons (.bin .idx (.var 1) (.bin .idx (.var 0) (.dat (.int 2)))) .nil))) (.cons (.set 4 (.ife (.bin .eq (.var 3) (.dat (.str "greatest"))) (.bin .ge (.call 41 [0, 1] (.cons (.var 6) (.cons (.var 7) .nil)) .nil) (.dat (.int 0))) (.bin .le (.call 41 [0, 1] (.cons (.var 6) (.cons (.var 7) .nil)) .nil) (.dat (.int 0))))) (.cons (.ret (.ife (.var 4) (.var 6) (.var 7))) .nil)))))))
def fe__line_at : FE := fun f => match f with
  | 2 => F_plus
  | 3 => F_times
  | 52 => F_is_so
  | 41 => F_order
  | _ => fun _ _ _ => False
@[irreducible] def F__line_at : List SV → KA → KX → Prop := runF fe__line_at 3 10 b__line_at
abbrev n_run : List Str := ["program", "numbers", "t", "values", "line"]
def b_run : Sm := (.cons (.set 3 (.un .list (.var 1))) (.cons (.loop (.nm 4) (.var 0) (.cons (.app 3 (.call 54 [0, 1, 2] (.cons (.var 4) (.cons (.var 3) (.cons (.var 2) .nil))) .nil)) .nil)) (.cons (.ret (.un .tuple (.var 3))) .nil)))
def fe_run : FE := fun f => match f with
  | 54 => F__line_at
  | _ => fun _ _ _ => False
@[irreducible] def F_run : List SV → KA → KX → Prop := runF fe_run 3 5 b_run
def t2_is_so : Sm := .nil
def t1_is_so : Sm := .cons (.ret (.ife (.bin .eq (.var 0) (.dat (.str "<="))) (.bin .le (.var 1) (.dat (.int 0))) (.bin .eq (.var 1) (.dat (.int 0))))) t2_is_so
def t0_is_so : Sm := .cons (.ifs (.bin .eq (.var 0) (.dat (.str "<"))) (.cons (.ret (.bin .lt (.var 1) (.dat (.int 0)))) .nil) .nil) t1_is_so
theorem bt_is_so : b_is_so = t0_is_so := rfl
def t3_form_at : Sm := .nil
def t2_form_at : Sm := .cons (.ret (.var 3)) t3_form_at
def t1_form_at : Sm := .cons (.loop (.tp [4, 5]) (.zip2 (.bin .idx (.var 0) (.dat (.int 0))) (.var 1)) (.cons (.set 3 (.call 2 [0, 1] (.cons (.var 3) (.cons (.call 3 [0, 1] (.cons (.var 4) (.cons (.var 5) .nil)) .nil) .nil)) .nil)) .nil)) t2_form_at
def t0_form_at : Sm := .cons (.set 3 (.call 2 [0, 1] (.cons (.bin .idx (.var 0) (.dat (.int 1))) (.cons (.call 3 [0, 1] (.cons (.bin .idx (.var 0) (.dat (.int 2))) (.cons (.var 2) .nil)) .nil) .nil)) .nil)) t1_form_at
theorem bt_form_at : b_form_at = t0_form_at := rfl
def t3__line_at_1a : Sm := .nil
def t2__line_at_1a : Sm := .cons (.ret (.var 5)) t3__line_at_1a
def t1__line_at_1a : Sm := .cons (.loop (.tp [8, 9]) (.bin .idx (.var 0) (.dat (.int 1))) (.cons (.set 5 (.call 2 [0, 1] (.cons (.var 5) (.cons (.call 3 [0, 1] (.cons (.var 8) (.cons (.bin .idx (.var 1) (.var 9)) .nil)) .nil) .nil)) .nil)) .nil)) t2__line_at_1a
def t0__line_at_1a : Sm := .cons (.set 5 (.bin .idx (.var 0) (.dat (.int 2)))) t1__line_at_1a
def t7__line_at : Sm := .nil
def t6__line_at : Sm := .cons (.ret (.ife (.var 4) (.var 6) (.var 7))) t7__line_at
def t5__line_at : Sm := .cons (.set 4 (.ife (.bin .eq (.var 3) (.dat (.str "greatest"))) (.bin .ge (.call 41 [0, 1] (.cons (.var 6) (.cons (.var 7) .nil)) .nil) (.dat (.int 0))) (.bin .le (.call 41 [0, 1] (.cons (.var 6) (.cons (.var 7) .nil)) .nil) (.dat (.int 0))))) t6__line_at
def t4__line_at : Sm := .cons (.par [6, 7] (.cons (.bin .idx (.var 1) (.bin .idx (.var 0) (.dat (.int 1)))) (.cons (.bin .idx (.var 1) (.bin .idx (.var 0) (.dat (.int 2)))) .nil))) t5__line_at
def t3__line_at : Sm := .cons (.ifs (.bin .eq (.var 3) (.dat (.str "choice"))) (.cons (.ret (.bin .idx (.var 1) (.ife (.call 52 [0, 1] (.cons (.bin .idx (.var 0) (.dat (.int 2))) (.cons (.call 41 [0, 1] (.cons (.bin .idx (.var 1) (.bin .idx (.var 0) (.dat (.int 1)))) (.cons (.bin .idx (.var 1) (.bin .idx (.var 0) (.dat (.int 3)))) .nil)) .nil) .nil)) .nil) (.bin .idx (.var 0) (.dat (.int 4))) (.bin .idx (.var 0) (.dat (.int 5)))))) .nil) .nil) t4__line_at
def t2__line_at : Sm := .cons (.ifs (.bin .eq (.var 3) (.dat (.str "shift"))) (.cons (.ret (.call 2 [0, 1] (.cons (.bin .idx (.var 1) (.bin .idx (.var 0) (.dat (.int 1)))) (.cons (.call 3 [0, 1] (.cons (.bin .idx (.var 0) (.dat (.int 2))) (.cons (.var 2) .nil)) .nil) .nil)) .nil)) .nil) .nil) t3__line_at
def t1__line_at : Sm := .cons (.ifs (.bin .eq (.var 3) (.dat (.str "sum"))) t0__line_at_1a .nil) t2__line_at
def t0__line_at : Sm := .cons (.set 3 (.bin .idx (.var 0) (.dat (.int 0)))) t1__line_at
theorem bt__line_at : b__line_at = t0__line_at := rfl
def t3_run : Sm := .nil
def t2_run : Sm := .cons (.ret (.un .tuple (.var 3))) t3_run
def t1_run : Sm := .cons (.loop (.nm 4) (.var 0) (.cons (.app 3 (.call 54 [0, 1, 2] (.cons (.var 4) (.cons (.var 3) (.cons (.var 2) .nil))) .nil)) .nil)) t2_run
def t0_run : Sm := .cons (.set 3 (.un .list (.var 1))) t1_run
theorem bt_run : b_run = t0_run := rfl
end Pg
end
section
/-! Un: the order of fractions. -/
namespace Un
open PySem Pg
def sg (n : Int) : Int := if 0 < n then 1 else if n < 0 then -1 else 0
def sgR (q : Rat) : Int := if 0 < q then 1 else if q < 0 then -1 else 0
theorem sgR_sub (q r : Rat) : sgR (q - r) = sg (q.num * r.den - r.num * q.den) := by
  have h1 : (0 < q - r) ↔ r < q := by constructor <;> intro h <;> grind
  have h2 : (q - r < 0) ↔ q < r := by constructor <;> intro h <;> grind
  simp only [sgR, sg, h1, h2, Rat.lt_iff]
  have a1 : (r.num * q.den < q.num * r.den) ↔ 0 < q.num * r.den - r.num * q.den := by omega
  have a2 : (q.num * r.den < r.num * q.den) ↔ q.num * r.den - r.num * q.den < 0 := by omega
  simp only [a1, a2]
theorem cross_eq (q r : Rat) : (q.num * r.den = r.num * q.den) ↔ q = r := by
  constructor
  · intro h
    have h1 : ¬ q < r := fun z => by rw [Rat.lt_iff] at z; omega
    have h2 : ¬ r < q := fun z => by rw [Rat.lt_iff] at z; omega
    grind
  · rintro rfl
    rfl
section
variable {k : KA} {x : KX}
@[simp] theorem int_b {b : Bool} : w1 .int (.d (.bool b)) k ↔ k (.d (.int (if b then 1 else 0))) := ⟨fun ⟨_, h1, h⟩ => by cases h1; exact h, fun h => ⟨_, rfl, h⟩⟩
theorem order_ok {q r : Rat} {a b : Nat} (hq : Bd a q) (hr : Bd b r) (h : a + b < 8990) (hk : k (.d (.int (sgR (q - r))))) : F_order [.d (Fr q), .d (Fr r)] k x := by
  unfold Fr
  simp [F_order, runF, bt_order, t0_order, t1_order, t2_order, fe_order]
  refine ⟨mul_ok hq.1 hr.dn (by omega), mul_ok hr.1 hq.dn (by omega), ?_⟩
  rw [sgR_sub] at hk
  unfold sg at hk
  generalize q.num * r.den = u at *
  generalize r.num * q.den = v at *
  have e : ((if v < u then 1 else 0) - (if u < v then 1 else 0) : Int) = if 0 < u - v then 1 else if u - v < 0 then -1 else 0 := by
    split <;> split <;> split <;> omega
  rw [e]
  exact hk
end
/-- the words of comparing -/
inductive Cw where
  | lt | le | eq
def Cw.str : Cw → Str
  | .lt => "<"
  | .le => "<="
  | .eq => "="
def Cw.so : Cw → Rat → Rat → Bool
  | .lt, q, r => decide (q < r)
  | .le, q, r => decide (q ≤ r)
  | .eq, q, r => decide (q = r)
theorem sgR_lt (q r : Rat) : (sgR (q - r) < 0) ↔ q < r := by
  unfold sgR
  split
  · constructor <;> intro h
    · omega
    · grind
  · split
    · constructor <;> intro h
      · grind
      · omega
    · constructor <;> intro h
      · omega
      · grind
theorem sgR_le (q r : Rat) : (sgR (q - r) ≤ 0) ↔ q ≤ r := by
  unfold sgR
  split
  · constructor <;> intro h
    · omega
    · grind
  · split
    · constructor <;> intro h
      · grind
      · omega
    · constructor <;> intro h
      · grind
      · omega
theorem sgR_ge (q r : Rat) : (0 ≤ sgR (q - r)) ↔ r ≤ q := by
  unfold sgR
  split
  · constructor <;> intro h
    · grind
    · omega
  · split
    · constructor <;> intro h
      · omega
      · grind
    · constructor <;> intro h
      · grind
      · omega
theorem sgR_eq (q r : Rat) : (sgR (q - r) = 0) ↔ q = r := by
  unfold sgR
  split
  · constructor <;> intro h
    · omega
    · grind
  · split
    · constructor <;> intro h
      · omega
      · grind
    · constructor <;> intro h
      · grind
      · omega
theorem is_so_ok {k : KA} {x : KX} {w : Cw} {q r : Rat} (hk : k (.d (.bool (w.so q r)))) : F_is_so [.d (.str w.str), .d (.int (sgR (q - r)))] k x := by
  cases w with
  | lt =>
    simp [F_is_so, runF, bt_is_so, t0_is_so, t1_is_so, t2_is_so, Cw.str]
    have e : decide (sgR (q - r) < 0) = Cw.so .lt q r := by simp [Cw.so, sgR_lt]
    rw [e]
    exact hk
  | le =>
    simp [F_is_so, runF, bt_is_so, t0_is_so, t1_is_so, t2_is_so, Cw.str]
    have e : decide (sgR (q - r) ≤ 0) = Cw.so .le q r := by simp [Cw.so, sgR_le]
    rw [e]
    exact hk
  | eq =>
    simp [F_is_so, runF, bt_is_so, t0_is_so, t1_is_so, t2_is_so, Cw.str]
    have e : decide (sgR (q - r) = 0) = Cw.so .eq q r := by simp [Cw.so, sgR_eq]
    rw [e]
    exact hk
end Un
namespace Un
open PySem Pg
section
variable {k : KA}
theorem idx2 {a b c r} : w2 .idx (.d (.tuple (a :: b :: c :: r))) (.d (.int 2)) k ↔ k (.d c) := ⟨fun ⟨_, _, h1, h2, h⟩ => by
  cases h1
  cases h2
  obtain ⟨v, e, h⟩ := h
  rw [show atIx (a :: b :: c :: r) 2 = some c from at_nat (i := 2) rfl] at e
  cases e
  exact h, fun h => ⟨_, _, rfl, rfl, c, at_nat (i := 2) rfl, h⟩⟩
theorem idx3 {a b c d r} : w2 .idx (.d (.tuple (a :: b :: c :: d :: r))) (.d (.int 3)) k ↔ k (.d d) := ⟨fun ⟨_, _, h1, h2, h⟩ => by
  cases h1
  cases h2
  obtain ⟨v, e, h⟩ := h
  rw [show atIx (a :: b :: c :: d :: r) 3 = some d from at_nat (i := 3) rfl] at e
  cases e
  exact h, fun h => ⟨_, _, rfl, rfl, d, at_nat (i := 3) rfl, h⟩⟩
theorem idx4 {a b c d f r} : w2 .idx (.d (.tuple (a :: b :: c :: d :: f :: r))) (.d (.int 4)) k ↔ k (.d f) := ⟨fun ⟨_, _, h1, h2, h⟩ => by
  cases h1
  cases h2
  obtain ⟨v, e, h⟩ := h
  rw [show atIx (a :: b :: c :: d :: f :: r) 4 = some f from at_nat (i := 4) rfl] at e
  cases e
  exact h, fun h => ⟨_, _, rfl, rfl, f, at_nat (i := 4) rfl, h⟩⟩
theorem idx5 {a b c d f g r} : w2 .idx (.d (.tuple (a :: b :: c :: d :: f :: g :: r))) (.d (.int 5)) k ↔ k (.d g) := ⟨fun ⟨_, _, h1, h2, h⟩ => by
  cases h1
  cases h2
  obtain ⟨v, e, h⟩ := h
  rw [show atIx (a :: b :: c :: d :: f :: g :: r) 5 = some g from at_nat (i := 5) rfl] at e
  cases e
  exact h, fun h => ⟨_, _, rfl, rfl, g, at_nat (i := 5) rfl, h⟩⟩
/-- the value of a name -/
def vg (vs : List Rat) (i : Nat) : Rat := vs.getD i 0
theorem vg_get {vs : List Rat} {i : Nat} (h : i < vs.length) : vs[i]? = some (vg vs i) := by
  unfold vg
  simp [h]
theorem vg_mem {vs : List Rat} {i : Nat} (h : i < vs.length) : vg vs i ∈ vs := List.mem_of_getElem? (vg_get h)
theorem vg_b {vs : List Rat} {i : Nat} (h : i < vs.length) (hk : k (.d (Fr (vg vs i)))) : w2 .idx (.bor (PL vs)) (.d (.int i)) k := idx_b (PL_at (vg_get h)) hk
theorem vg_l {vs : List Rat} {i : Nat} (h : i < vs.length) (hk : k (.d (Fr (vg vs i)))) : w2 .idx (.d (.list (PL vs))) (.d (.int i)) k := idx_l (PL_at (vg_get h)) hk
theorem vg_t {vs : List Rat} {i : Nat} (h : i < vs.length) (hk : k (.d (Fr (vg vs i)))) : w2 .idx (.d (PT vs)) (.d (.int i)) k := idx_t (PL_at (vg_get h)) hk
/-- a bottom that divides N -/
theorem rp_dvd {a b : Int} {N : Nat} (hb : 1 ≤ b) (hN : 0 < N) (hd : b.natAbs ∣ N) : Rp N (a.natAbs * N) (Rat.divInt a b) := by
  obtain ⟨m, hm⟩ := hd
  have hm0 : 0 < m := by
    rcases Nat.eq_zero_or_pos m with h | h
    · rw [h, Nat.mul_zero] at hm
      omega
    · exact h
  refine ⟨hN, a * m, ?_, ?_⟩
  · have e : (N : Int) = b * m := by
      rw [hm, Int.natCast_mul]
      congr 1
      omega
    have hM : (m : Int) ≠ 0 := by omega
    rw [e, Rat.divInt_mul_right hM]
  · rw [Int.natAbs_mul]
    refine Nat.mul_le_mul_left _ ?_
    rw [Int.natAbs_natCast, hm]
    exact Nat.le_mul_of_pos_left _ (by omega)
end
end Un
end
section
namespace Fd
open PySem Un Pg
abbrev F__law_draw : List SV → KA → KX → Prop := drawW
abbrev n__law_pick : List Str := ["_law_bowl_here", "_law_items"]
def b__law_pick : Sm := (.cons (.ret (.bin .idx (.var 1) (.call 0 [0, 1] (.cons (.var 0) (.cons (.un .len (.var 1)) .nil)) .nil))) .nil)
def fe__law_pick : FE := fun f => match f with
  | 0 => F__law_draw
  | _ => fun _ _ _ => False
@[irreducible] def F__law_pick : List SV → KA → KX → Prop := runF fe__law_pick 2 2 b__law_pick
abbrev n__law_low : List Str := ["_law_top", "_law_bottom", "_law_one", "_law_two"]
def b__law_low : Sm := (.cons (.par [2, 3] (.cons (.un .abs (.var 0)) (.cons (.un .abs (.var 1)) .nil))) (.cons (.whl (.bin .gt (.var 3) (.dat (.int 0))) (.cons (.par [2, 3] (.cons (.var 3) (.cons (.bin .mod (.un .int (.var 2)) (.var 3)) .nil))) .nil)) (.cons (.ret (.ife (.bin .gt (.var 1) (.dat (.int 0))) (.tup (.cons (.bin .fdiv (.var 0) (.var 2)) (.cons (.bin .fdiv (.var 1) (.var 2)) .nil))) (.tup (.cons (.bin .fdiv (.un .neg (.var 0)) (.var 2)) (.cons (.bin .fdiv (.un .neg (.var 1)) (.var 2)) .nil))))) .nil)))
def fe__law_low : FE := fun _ _ _ _ => False
@[irreducible] def F__law_low : List SV → KA → KX → Prop := runF fe__law_low 2 4 b__law_low
abbrev n__law_total : List Str := ["_law_pairs", "_law_top", "_law_bottom", "_law_one", "_law_two", "_law_by"]
def b__law_total : Sm := (.cons (.par [1, 2] (.cons (.dat (.int 0)) (.cons (.dat (.int 1)) .nil))) (.cons (.loop (.tp [3, 4]) (.var 0) (.cons (.set 5 (.bin .mul (.bin .idx (.var 3) (.dat (.int 1))) (.bin .idx (.var 4) (.dat (.int 1))))) (.cons (.par [1, 2] (.cons (.bin .add (.bin .mul (.var 1) (.var 5)) (.bin .mul (.bin .mul (.bin .idx (.var 3) (.dat (.int 0))) (.bin .idx (.var 4) (.dat (.int 0)))) (.var 2))) (.cons (.bin .mul (.var 2) (.var 5)) .nil))) .nil))) (.cons (.ret (.call 57 [0, 1] (.cons (.var 1) (.cons (.var 2) .nil)) .nil)) .nil)))
def fe__law_total : FE := fun f => match f with
  | 57 => F__law_low
  | _ => fun _ _ _ => False
@[irreducible] def F__law_total : List SV → KA → KX → Prop := runF fe__law_total 1 6 b__law_total
abbrev n__law_is_true : List Str := ["_law_one", "_law_word", "_law_two", "_law_left", "_law_right"]
def b__law_is_true : Sm := (.cons (.par [3, 4] (.cons (.bin .mul (.bin .idx (.var 0) (.dat (.int 0))) (.bin .idx (.var 2) (.dat (.int 1)))) (.cons (.bin .mul (.bin .idx (.var 2) (.dat (.int 0))) (.bin .idx (.var 0) (.dat (.int 1)))) .nil))) (.cons (.ifs (.bin .eq (.var 1) (.dat (.str "="))) (.cons (.ret (.bin .eq (.var 3) (.var 4))) .nil) .nil) (.cons (.ret (.bor (.bin .lt (.var 3) (.var 4)) (.band (.bin .eq (.var 1) (.dat (.str "<="))) (.bin .eq (.var 3) (.var 4))))) .nil)))
def fe__law_is_true : FE := fun _ _ _ _ => False
@[irreducible] def F__law_is_true : List SV → KA → KX → Prop := runF fe__law_is_true 3 5 b__law_is_true
abbrev n__law_fraction : List Str := ["_law_bowl_here", "_law_far", "_law_deep", "_law_bottom"]
def b__law_fraction : Sm := (.cons (.set 3 (.call 56 [0, 1] (.cons (.var 0) (.cons (.lst (.cons (.dat (.int 1)) (.cons (.dat (.int 1)) (.cons (.dat (.int 1)) (.cons (.bin .add (.dat (.int 1)) (.call 0 [0, 1] (.cons (.var 0) (.cons (.var 2) .nil)) .nil)) .nil))))) .nil)) .nil)) (.cons (.ret (.call 57 [0, 1] (.cons (.bin .sub (.call 0 [0, 1] (.cons (.var 0) (.cons (.bin .add (.bin .mul (.dat (.int 2)) (.var 1)) (.dat (.int 1))) .nil)) .nil) (.var 1)) (.cons (.var 3) .nil)) .nil)) .nil))
def fe__law_fraction : FE := fun f => match f with
  | 56 => F__law_pick
  | 0 => F__law_draw
  | 57 => F__law_low
  | _ => fun _ _ _ => False
@[irreducible] def F__law_fraction : List SV → KA → KX → Prop := runF fe__law_fraction 3 4 b__law_fraction
abbrev n__law_name : List Str := ["_law_bowl_here", "_law_top"]
def b__law_name : Sm := (.cons (.ret (.call 56 [0, 1] (.cons (.var 0) (.cons (.lst (.cons (.call 0 [0, 1] (.cons (.var 0) (.cons (.var 1) .nil)) .nil) (.cons (.call 0 [0, 1] (.cons (.var 0) (.cons (.var 1) .nil)) .nil) (.cons (.bin .sub (.var 1) (.dat (.int 1))) .nil)))) .nil)) .nil)) .nil)
def fe__law_name : FE := fun f => match f with
  | 56 => F__law_pick
  | 0 => F__law_draw
  | _ => fun _ _ _ => False
@[irreducible] def F__law_name : List SV → KA → KX → Prop := runF fe__law_name 2 2 b__law_name
abbrev n__law_line : List Str := ["_law_bowl_here", "_law_top", "_law_word", "_law_by", "_law_one", "_law_two", "_law_more", "_law_rest", "_law_marks", "_law_turn", "_law_at"]
def b__law_line : Sm := (.cons (.unp [4, 5, 6, 7] (.cmp [9] (.call 60 [0, 1] (.cons (.var 0) (.cons (.var 1) .nil)) .nil) (.nm 9) (.rng1 (.dat (.int 4))) .no)) (.cons (.set 3 (.call 17 [0, 1, 2] (.cons (.var 0) (.cons (.dat (.int 3)) (.cons (.dat (.int 3)) .nil))) .nil)) (.cons (.ifs (.bin .eq (.var 2) (.dat (.str "sum"))) (.cons (.set 8 (.un .sset (.slc (.lst (.cons (.var 4) (.cons (.var 5) (.cons (.var 6) .nil)))) .no (.call 0 [0, 1] (.cons (.var 0) (.cons (.dat (.int 4)) .nil)) .nil)))) (.cons (.frz 8) (.cons (.ret (.tup (.cons (.dat (.str "sum")) (.cons (.un .tuple (.cmp [10] (.tup (.cons (.call 17 [0, 1, 2] (.cons (.var 0) (.cons (.dat (.int 3)) (.cons (.dat (.int 3)) .nil))) .nil) (.cons (.var 10) .nil))) (.nm 10) (.var 8) .no)) (.cons (.call 17 [0, 1, 2] (.cons (.var 0) (.cons (.dat (.int 6)) (.cons (.dat (.int 3)) .nil))) .nil) .nil))))) .nil))) .nil) (.cons (.ifs (.bin .eq (.var 2) (.dat (.str "shift"))) (.cons (.ret (.tup (.cons (.dat (.str "shift")) (.cons (.var 4) (.cons (.var 3) .nil))))) .nil) .nil) (.cons (.ifs (.bin .eq (.var 2) (.dat (.str "choice"))) (.cons (.ret (.tup (.cons (.dat (.str "choice")) (.cons (.var 4) (.cons (.call 56 [0, 1] (.cons (.var 0) (.cons (.lst (.cons (.dat (.str "<")) (.cons (.dat (.str "<=")) (.cons (.dat (.str "=")) .nil)))) .nil)) .nil) (.cons (.var 5) (.cons (.var 6) (.cons (.var 7) .nil)))))))) .nil) .nil) (.cons (.ret (.tup (.cons (.var 2) (.cons (.var 4) (.cons (.var 5) .nil))))) .nil))))))
def fe__law_line : FE := fun f => match f with
  | 60 => F__law_name
  | 17 => F__law_fraction
  | 0 => F__law_draw
  | 56 => F__law_pick
  | _ => fun _ _ _ => False
@[irreducible] def F__law_line : List SV → KA → KX → Prop := runF fe__law_line 3 11 b__law_line
abbrev n__law_program : List Str := ["_law_bowl_here", "_law_wide", "_law_words", "_law_lines", "_law_word"]
def b__law_program : Sm := (.cons (.set 3 (.lst .nil)) (.cons (.loop (.nm 4) (.var 2) (.cons (.app 3 (.call 61 [0, 1, 2] (.cons (.var 0) (.cons (.bin .add (.var 1) (.un .len (.var 3))) (.cons (.var 4) .nil))) .nil)) .nil)) (.cons (.ret (.un .tuple (.var 3))) .nil)))
def fe__law_program : FE := fun f => match f with
  | 61 => F__law_line
  | _ => fun _ _ _ => False
@[irreducible] def F__law_program : List SV → KA → KX → Prop := runF fe__law_program 3 5 b__law_program
abbrev n__law_axes : List Str := ["_law_wide", "_law_found", "_law_at", "_law_to"]
def b__law_axes : Sm := (.cons (.set 1 (.lst .nil)) (.cons (.loop (.nm 2) (.rng1 (.var 0)) (.cons (.app 1 (.tup (.cons (.un .tuple (.cmp [3] (.tup (.cons (.un .int (.bin .eq (.var 2) (.var 3))) (.cons (.dat (.int 1)) .nil))) (.nm 3) (.rng1 (.var 0)) .no)) (.cons (.tup (.cons (.dat (.int 0)) (.cons (.dat (.int 1)) .nil))) (.cons (.tup (.cons (.dat (.int 0)) (.cons (.dat (.int 1)) .nil))) .nil))))) .nil)) (.cons (.ret (.var 1)) .nil)))
def fe__law_axes : FE := fun _ _ _ _ => False
@[irreducible] def F__law_axes : List SV → KA → KX → Prop := runF fe__law_axes 1 4 b__law_axes
abbrev n__law_flat : List Str := ["_law_wide", "_law_high", "_law_by"]
def b__law_flat : Sm := (.cons (.ret (.tup (.cons (.bin .mul (.tup (.cons (.tup (.cons (.dat (.int 0)) (.cons (.dat (.int 1)) .nil))) .nil)) (.var 0)) (.cons (.var 1) (.cons (.var 2) .nil))))) .nil)
def fe__law_flat : FE := fun _ _ _ _ => False
@[irreducible] def F__law_flat : List SV → KA → KX → Prop := runF fe__law_flat 3 3 b__law_flat
abbrev n__law_blend : List Str := ["_law_wide", "_law_pairs", "_law_factors", "_law_at", "_law_high", "_law_by", "_law_shape"]
def b__law_blend : Sm := (.cons (.set 2 (.lst .nil)) (.cons (.loop (.nm 3) (.rng1 (.var 0)) (.cons (.app 2 (.call 58 [0] (.cons (.cmp [5, 6] (.tup (.cons (.var 5) (.cons (.bin .idx (.bin .idx (.var 6) (.dat (.int 0))) (.var 3)) .nil))) (.tp [5, 6]) (.var 1) .no) .nil) .nil)) .nil)) (.cons (.set 4 (.call 58 [0] (.cons (.cmp [5, 6] (.tup (.cons (.var 5) (.cons (.bin .idx (.var 6) (.dat (.int 1))) .nil))) (.tp [5, 6]) (.var 1) .no) .nil) .nil)) (.cons (.ret (.tup (.cons (.un .tuple (.var 2)) (.cons (.var 4) (.cons (.call 58 [0] (.cons (.cmp [5, 6] (.tup (.cons (.var 5) (.cons (.bin .idx (.var 6) (.dat (.int 2))) .nil))) (.tp [5, 6]) (.var 1) .no) .nil) .nil) .nil))))) .nil))))
def fe__law_blend : FE := fun f => match f with
  | 58 => F__law_total
  | _ => fun _ _ _ => False
@[irreducible] def F__law_blend : List SV → KA → KX → Prop := runF fe__law_blend 2 7 b__law_blend
def t1__law_pick : Sm := .nil
def t0__law_pick : Sm := .cons (.ret (.bin .idx (.var 1) (.call 0 [0, 1] (.cons (.var 0) (.cons (.un .len (.var 1)) .nil)) .nil))) t1__law_pick
theorem bt__law_pick : b__law_pick = t0__law_pick := rfl
def t3__law_low : Sm := .nil
def t2__law_low : Sm := .cons (.ret (.ife (.bin .gt (.var 1) (.dat (.int 0))) (.tup (.cons (.bin .fdiv (.var 0) (.var 2)) (.cons (.bin .fdiv (.var 1) (.var 2)) .nil))) (.tup (.cons (.bin .fdiv (.un .neg (.var 0)) (.var 2)) (.cons (.bin .fdiv (.un .neg (.var 1)) (.var 2)) .nil))))) t3__law_low
def t1__law_low : Sm := .cons (.whl (.bin .gt (.var 3) (.dat (.int 0))) (.cons (.par [2, 3] (.cons (.var 3) (.cons (.bin .mod (.un .int (.var 2)) (.var 3)) .nil))) .nil)) t2__law_low
def t0__law_low : Sm := .cons (.par [2, 3] (.cons (.un .abs (.var 0)) (.cons (.un .abs (.var 1)) .nil))) t1__law_low
theorem bt__law_low : b__law_low = t0__law_low := rfl
def t2__law_total_1 : Sm := .nil
def t1__law_total_1 : Sm := .cons (.par [1, 2] (.cons (.bin .add (.bin .mul (.var 1) (.var 5)) (.bin .mul (.bin .mul (.bin .idx (.var 3) (.dat (.int 0))) (.bin .idx (.var 4) (.dat (.int 0)))) (.var 2))) (.cons (.bin .mul (.var 2) (.var 5)) .nil))) t2__law_total_1
def t0__law_total_1 : Sm := .cons (.set 5 (.bin .mul (.bin .idx (.var 3) (.dat (.int 1))) (.bin .idx (.var 4) (.dat (.int 1))))) t1__law_total_1
def t3__law_total : Sm := .nil
def t2__law_total : Sm := .cons (.ret (.call 57 [0, 1] (.cons (.var 1) (.cons (.var 2) .nil)) .nil)) t3__law_total
def t1__law_total : Sm := .cons (.loop (.tp [3, 4]) (.var 0) t0__law_total_1) t2__law_total
def t0__law_total : Sm := .cons (.par [1, 2] (.cons (.dat (.int 0)) (.cons (.dat (.int 1)) .nil))) t1__law_total
theorem bt__law_total : b__law_total = t0__law_total := rfl
def t3__law_is_true : Sm := .nil
def t2__law_is_true : Sm := .cons (.ret (.bor (.bin .lt (.var 3) (.var 4)) (.band (.bin .eq (.var 1) (.dat (.str "<="))) (.bin .eq (.var 3) (.var 4))))) t3__law_is_true
def t1__law_is_true : Sm := .cons (.ifs (.bin .eq (.var 1) (.dat (.str "="))) (.cons (.ret (.bin .eq (.var 3) (.var 4))) .nil) .nil) t2__law_is_true
def t0__law_is_true : Sm := .cons (.par [3, 4] (.cons (.bin .mul (.bin .idx (.var 0) (.dat (.int 0))) (.bin .idx (.var 2) (.dat (.int 1)))) (.cons (.bin .mul (.bin .idx (.var 2) (.dat (.int 0))) (.bin .idx (.var 0) (.dat (.int 1)))) .nil))) t1__law_is_true
theorem bt__law_is_true : b__law_is_true = t0__law_is_true := rfl
def t2__law_fraction : Sm := .nil
def t1__law_fraction : Sm := .cons (.ret (.call 57 [0, 1] (.cons (.bin .sub (.call 0 [0, 1] (.cons (.var 0) (.cons (.bin .add (.bin .mul (.dat (.int 2)) (.var 1)) (.dat (.int 1))) .nil)) .nil) (.var 1)) (.cons (.var 3) .nil)) .nil)) t2__law_fraction
def t0__law_fraction : Sm := .cons (.set 3 (.call 56 [0, 1] (.cons (.var 0) (.cons (.lst (.cons (.dat (.int 1)) (.cons (.dat (.int 1)) (.cons (.dat (.int 1)) (.cons (.bin .add (.dat (.int 1)) (.call 0 [0, 1] (.cons (.var 0) (.cons (.var 2) .nil)) .nil)) .nil))))) .nil)) .nil)) t1__law_fraction
theorem bt__law_fraction : b__law_fraction = t0__law_fraction := rfl
def t1__law_name : Sm := .nil
def t0__law_name : Sm := .cons (.ret (.call 56 [0, 1] (.cons (.var 0) (.cons (.lst (.cons (.call 0 [0, 1] (.cons (.var 0) (.cons (.var 1) .nil)) .nil) (.cons (.call 0 [0, 1] (.cons (.var 0) (.cons (.var 1) .nil)) .nil) (.cons (.bin .sub (.var 1) (.dat (.int 1))) .nil)))) .nil)) .nil)) t1__law_name
theorem bt__law_name : b__law_name = t0__law_name := rfl
def t3__law_line_2a : Sm := .nil
def t2__law_line_2a : Sm := .cons (.ret (.tup (.cons (.dat (.str "sum")) (.cons (.un .tuple (.cmp [10] (.tup (.cons (.call 17 [0, 1, 2] (.cons (.var 0) (.cons (.dat (.int 3)) (.cons (.dat (.int 3)) .nil))) .nil) (.cons (.var 10) .nil))) (.nm 10) (.var 8) .no)) (.cons (.call 17 [0, 1, 2] (.cons (.var 0) (.cons (.dat (.int 6)) (.cons (.dat (.int 3)) .nil))) .nil) .nil))))) t3__law_line_2a
def t1__law_line_2a : Sm := .cons (.frz 8) t2__law_line_2a
def t0__law_line_2a : Sm := .cons (.set 8 (.un .sset (.slc (.lst (.cons (.var 4) (.cons (.var 5) (.cons (.var 6) .nil)))) .no (.call 0 [0, 1] (.cons (.var 0) (.cons (.dat (.int 4)) .nil)) .nil)))) t1__law_line_2a
def t6__law_line : Sm := .nil
def t5__law_line : Sm := .cons (.ret (.tup (.cons (.var 2) (.cons (.var 4) (.cons (.var 5) .nil))))) t6__law_line
def t4__law_line : Sm := .cons (.ifs (.bin .eq (.var 2) (.dat (.str "choice"))) (.cons (.ret (.tup (.cons (.dat (.str "choice")) (.cons (.var 4) (.cons (.call 56 [0, 1] (.cons (.var 0) (.cons (.lst (.cons (.dat (.str "<")) (.cons (.dat (.str "<=")) (.cons (.dat (.str "=")) .nil)))) .nil)) .nil) (.cons (.var 5) (.cons (.var 6) (.cons (.var 7) .nil)))))))) .nil) .nil) t5__law_line
def t3__law_line : Sm := .cons (.ifs (.bin .eq (.var 2) (.dat (.str "shift"))) (.cons (.ret (.tup (.cons (.dat (.str "shift")) (.cons (.var 4) (.cons (.var 3) .nil))))) .nil) .nil) t4__law_line
def t2__law_line : Sm := .cons (.ifs (.bin .eq (.var 2) (.dat (.str "sum"))) t0__law_line_2a .nil) t3__law_line
def t1__law_line : Sm := .cons (.set 3 (.call 17 [0, 1, 2] (.cons (.var 0) (.cons (.dat (.int 3)) (.cons (.dat (.int 3)) .nil))) .nil)) t2__law_line
def t0__law_line : Sm := .cons (.unp [4, 5, 6, 7] (.cmp [9] (.call 60 [0, 1] (.cons (.var 0) (.cons (.var 1) .nil)) .nil) (.nm 9) (.rng1 (.dat (.int 4))) .no)) t1__law_line
theorem bt__law_line : b__law_line = t0__law_line := rfl
def t3__law_program : Sm := .nil
def t2__law_program : Sm := .cons (.ret (.un .tuple (.var 3))) t3__law_program
def t1__law_program : Sm := .cons (.loop (.nm 4) (.var 2) (.cons (.app 3 (.call 61 [0, 1, 2] (.cons (.var 0) (.cons (.bin .add (.var 1) (.un .len (.var 3))) (.cons (.var 4) .nil))) .nil)) .nil)) t2__law_program
def t0__law_program : Sm := .cons (.set 3 (.lst .nil)) t1__law_program
theorem bt__law_program : b__law_program = t0__law_program := rfl
def t3__law_axes : Sm := .nil
def t2__law_axes : Sm := .cons (.ret (.var 1)) t3__law_axes
def t1__law_axes : Sm := .cons (.loop (.nm 2) (.rng1 (.var 0)) (.cons (.app 1 (.tup (.cons (.un .tuple (.cmp [3] (.tup (.cons (.un .int (.bin .eq (.var 2) (.var 3))) (.cons (.dat (.int 1)) .nil))) (.nm 3) (.rng1 (.var 0)) .no)) (.cons (.tup (.cons (.dat (.int 0)) (.cons (.dat (.int 1)) .nil))) (.cons (.tup (.cons (.dat (.int 0)) (.cons (.dat (.int 1)) .nil))) .nil))))) .nil)) t2__law_axes
def t0__law_axes : Sm := .cons (.set 1 (.lst .nil)) t1__law_axes
theorem bt__law_axes : b__law_axes = t0__law_axes := rfl
def t1__law_flat : Sm := .nil
def t0__law_flat : Sm := .cons (.ret (.tup (.cons (.bin .mul (.tup (.cons (.tup (.cons (.dat (.int 0)) (.cons (.dat (.int 1)) .nil))) .nil)) (.var 0)) (.cons (.var 1) (.cons (.var 2) .nil))))) t1__law_flat
theorem bt__law_flat : b__law_flat = t0__law_flat := rfl
def t4__law_blend : Sm := .nil
def t3__law_blend : Sm := .cons (.ret (.tup (.cons (.un .tuple (.var 2)) (.cons (.var 4) (.cons (.call 58 [0] (.cons (.cmp [5, 6] (.tup (.cons (.var 5) (.cons (.bin .idx (.var 6) (.dat (.int 2))) .nil))) (.tp [5, 6]) (.var 1) .no) .nil) .nil) .nil))))) t4__law_blend
def t2__law_blend : Sm := .cons (.set 4 (.call 58 [0] (.cons (.cmp [5, 6] (.tup (.cons (.var 5) (.cons (.bin .idx (.var 6) (.dat (.int 1))) .nil))) (.tp [5, 6]) (.var 1) .no) .nil) .nil)) t3__law_blend
def t1__law_blend : Sm := .cons (.loop (.nm 3) (.rng1 (.var 0)) (.cons (.app 2 (.call 58 [0] (.cons (.cmp [5, 6] (.tup (.cons (.var 5) (.cons (.bin .idx (.bin .idx (.var 6) (.dat (.int 0))) (.var 3)) .nil))) (.tp [5, 6]) (.var 1) .no) .nil) .nil)) .nil)) t2__law_blend
def t0__law_blend : Sm := .cons (.set 2 (.lst .nil)) t1__law_blend
theorem bt__law_blend : b__law_blend = t0__law_blend := rfl
end Fd
end
section
/-! The common small defs of the laws k45 to k57. -/
namespace Fd
open PySem Un Pg
section
variable {k : KA} {x : KX}
theorem abs_nat (i : Int) : (if i < 0 then -i else i) = (i.natAbs : Int) := by split <;> omega
theorem euclid {fe : FE} {kf : KF} {u v : SV} : ∀ (n r b : Nat), r < n → kf (.nx [u, v, .d (.int (Nat.gcd b r : Nat)), .d (.int 0)]) →
    whlW (ev fe x (.bin .gt (.var 3) (.dat (.int 0)))).t (ex fe x (.cons (.par [2, 3] (.cons (.var 3) (.cons (.bin .mod (.un .int (.var 2)) (.var 3)) .nil))) .nil)) n [u, v, .d (.int b), .d (.int r)] kf
  | 0, r, b, h, _ => absurd h (Nat.not_lt_zero r)
  | n + 1, r, b, h, hk => by
    rw [whl_step]
    simp
    by_cases hr : r = 0
    · subst hr
      simpa using hk
    · rw [if_pos (by omega)]
      refine ⟨by omega, ?_⟩
      have e : (b : Int).fmod r = ((b % r : Nat) : Int) := by rw [Int.fmod_eq_emod_of_nonneg _ (by omega)]; exact (Int.natCast_emod _ _).symm
      rw [e]
      refine euclid n (b % r) r ?_ ?_
      · have := Nat.mod_lt b (show 0 < r by omega)
        omega
      · have e2 : Nat.gcd r (b % r) = Nat.gcd b r := by rw [Nat.gcd_comm b r, Nat.gcd_rec r b, Nat.gcd_comm]
        rw [e2]
        exact hk
theorem low_ok {t b : Int} {m : Nat} (hb : b ≠ 0) (hm : b.natAbs < 2 ^ m) (h9 : m < 9000) (hk : k (.d (Fr (Rat.divInt t b)))) : F__law_low [.d (.int t), .d (.int b)] k x := by
  simp [F__law_low, runF, b__law_low]
  rw [abs_nat, abs_nat]
  refine ⟨b.natAbs + 1, euclid _ _ _ (Nat.lt_succ_self _) ?_⟩
  simp
  have hp : 0 < Nat.gcd t.natAbs b.natAbs := Nat.gcd_pos_of_pos_right _ (by omega)
  have hl := gcd_lt (t := t) hm hb
  unfold Fr at hk
  by_cases hn : b < 0
  · have hq := low_parts t b hb _ rfl
    rw [if_pos hn] at hq
    rw [if_neg (by omega)]
    have d1 : (Nat.gcd t.natAbs b.natAbs : Int) ∣ t := Int.ofNat_dvd_left.mpr (Nat.gcd_dvd_left _ _)
    have d2 : (Nat.gcd t.natAbs b.natAbs : Int) ∣ b := Int.ofNat_dvd_left.mpr (Nat.gcd_dvd_right _ _)
    have e1 : (-t).fdiv (Nat.gcd t.natAbs b.natAbs : Int) = t.fdiv (-(Nat.gcd t.natAbs b.natAbs : Int)) := by
      rw [fdiv_exact (Int.dvd_neg.mpr d1), fdiv_exact (Int.neg_dvd.mpr d1), Int.ediv_neg, Int.neg_ediv_of_dvd d1]
    have e2 : (-b).fdiv (Nat.gcd t.natAbs b.natAbs : Int) = b.fdiv (-(Nat.gcd t.natAbs b.natAbs : Int)) := by
      rw [fdiv_exact (Int.dvd_neg.mpr d2), fdiv_exact (Int.neg_dvd.mpr d2), Int.ediv_neg, Int.neg_ediv_of_dvd d2]
    rw [e1, e2, hq.1, hq.2]
    exact ⟨div_ok (by omega) (by simpa using hl) h9, by decide, hk⟩
  · have hq := low_parts t b hb _ rfl
    rw [if_neg hn] at hq
    rw [if_pos (by omega)]
    rw [hq.1, hq.2]
    exact ⟨div_ok (by omega) (by simpa using hl) h9, by decide, hk⟩
theorem draw_ok {n : Int} (h0 : 0 < n) (h1 : n < 1000000) (hk : ∀ r, 0 ≤ r → r < n → k (.d (.int r))) : drawW [.src, .d (.int n)] k x :=
  ⟨n, rfl, h0, by
    have : n.natAbs < 2 ^ 20 := by omega
    have := log_lt this (by decide)
    omega, hk⟩
theorem pick_ok {xs : List PyData} (h0 : xs ≠ []) (h1 : xs.length ≤ 1000) (hk : ∀ y ∈ xs, k (.d y)) : F__law_pick [.src, .d (.list xs)] k x := by
  simp [F__law_pick, runF, b__law_pick, fe__law_pick]
  have hl : 0 < xs.length := List.length_pos_iff.mpr h0
  refine draw_ok (by omega) (by omega) fun r hr0 hr1 => ?_
  obtain ⟨i, rfl⟩ : ∃ i : Nat, r = i := ⟨r.toNat, by omega⟩
  have hi : i < xs.length := by omega
  have hg : xs[i]? = some xs[i] := List.getElem?_eq_getElem hi
  refine idx_l hg ?_
  simp
  exact hk _ (List.getElem_mem hi)
/-- a drawn fraction: a top of at most f, a bottom of at most d -/
def Dr (f d : Nat) (q : Rat) : Prop := ∃ a b : Int, q = Rat.divInt a b ∧ a.natAbs ≤ f ∧ 1 ≤ b ∧ b.natAbs ≤ d
theorem fraction_ok {f d : Nat} (hf : f ≤ 12) (hd : 1 ≤ d) (hd2 : d ≤ 12) (hk : ∀ q, Dr f d q → k (.d (Fr q))) : F__law_fraction [.src, .d (.int f), .d (.int d)] k x := by
  simp [F__law_fraction, runF, b__law_fraction, fe__law_fraction]
  refine draw_ok (by omega) (by omega) fun r hr0 hr1 => ?_
  simp
  refine ⟨by decide, pick_ok (by simp) (by simp) fun y hy => ?_⟩
  obtain ⟨n, rfl, h0, h1⟩ : ∃ n : Int, y = .int n ∧ 1 ≤ n ∧ n.natAbs ≤ d := by
    simp at hy
    rcases hy with rfl | rfl
    · exact ⟨_, rfl, by decide, by omega⟩
    · exact ⟨_, rfl, by omega, by omega⟩
  simp [fe__law_fraction]
  refine ⟨.inl (by decide), draw_ok (by omega) (by omega) fun s h2 h3 => ?_⟩
  simp [fe__law_fraction]
  exact low_ok (m := 4) (by omega) (by omega) (by decide) (hk _ ⟨s - f, n, rfl, by omega, h0, h1⟩)
theorem Dr.bd {f d b : Nat} {q : Rat} (h : Dr f d q) (hf : f < 2 ^ b) (hd : d < 2 ^ b) : Bd b q := by
  obtain ⟨a, c, rfl, h1, h2, h3⟩ := h
  exact low_bd (by omega) (by omega) (by omega)
theorem Dr.neg {f d : Nat} {q : Rat} (h : Dr f d q) : Dr f d (-q) := by
  obtain ⟨a, b, rfl, h1, h2, h3⟩ := h
  exact ⟨-a, b, by rw [Rat.neg_divInt], by omega, h2, h3⟩
theorem name_ok {n : Nat} (h0 : 1 ≤ n) (h1 : n ≤ 1000) (hk : ∀ i : Nat, i < n → k (.d (.int i))) : F__law_name [.src, .d (.int n)] k x := by
  simp [F__law_name, runF, b__law_name, fe__law_name]
  refine draw_ok (by omega) (by omega) fun r hr0 hr1 => ?_
  simp
  refine draw_ok (by omega) (by omega) fun s hs0 hs1 => ?_
  simp
  refine ⟨by decide, pick_ok (by simp) (by simp) fun y hy => ?_⟩
  simp at hy
  rcases hy with rfl | rfl | rfl
  · have := hk r.toNat (by omega)
    rwa [show ((r.toNat : Nat) : Int) = r by omega] at this
  · have := hk s.toNat (by omega)
    rwa [show ((s.toNat : Nat) : Int) = s by omega] at this
  · have := hk (n - 1) (by omega)
    rwa [show ((n - 1 : Nat) : Int) = (n : Int) - 1 by omega] at this
end
end Fd
end
section
/-! k45 to k57: sums of products; lines and programs; sizes of what names come to. -/
namespace Fd
open PySem Un Pg
/-! ### sums of products -/
def PR (ps : List (Rat × Rat)) : List PyData := ps.map fun p => .tuple [Fr p.1, Fr p.2]
def dotR : List (Rat × Rat) → Rat
  | [] => 0
  | p :: r => p.1 * p.2 + dotR r
theorem dot_app : ∀ l m : List (Rat × Rat), dotR (l ++ m) = dotR l + dotR m
  | [], m => by simp [dotR]; grind
  | p :: l, m => by
    rw [List.cons_append, dotR, dotR, dot_app l m]
    grind
theorem PR_get {l : List (Rat × Rat)} {i : Nat} {x : PyData} (h : (PR l)[i]? = some x) : ∃ p, l[i]? = some p ∧ x = .tuple [Fr p.1, Fr p.2] := by
  unfold PR at h
  rw [List.getElem?_map] at h
  cases e : l[i]? with
  | none => rw [e] at h; cases h
  | some q => rw [e] at h; exact ⟨q, rfl, (Option.some.inj h).symm⟩
theorem take_next {α : Type} {l : List α} {i : Nat} {a : α} (h : l[i]? = some a) : l.take (i + 1) = l.take i ++ [a] := by
  rw [List.take_succ, h] <;> rfl
theorem two_mul_lt {a b c : Nat} (h : a < 2 ^ c) : a + b < 2 ^ c + b := by omega
section
variable {k : KA} {x : KX}
theorem total_ok {ps : List (Rat × Rat)} {m : Nat} (h : ∀ p ∈ ps, Bd m p.1 ∧ Bd m p.2) (hz : (ps.length + 1) * (2 * m + 1) < 8990) (hk : k (.d (Fr (dotR ps)))) : F__law_total [.d (.list (PR ps))] k x := by
  simp [F__law_total, runF, bt__law_total, t0__law_total]
  simp [t1__law_total]
  let I : Nat → List SV → Prop := fun i ρ => ∃ (t b : Int) (u v w : SV), ρ = [.d (.list (PR ps)), .d (.int t), .d (.int b), u, v, w] ∧ b ≠ 0 ∧ Rat.divInt t b = dotR (ps.take i) ∧ t.natAbs < 2 ^ (i * (2 * m + 1) + 1) ∧ b.natAbs < 2 ^ (i * (2 * m + 1) + 1)
  refine loop_inv I (i := 0) ⟨0, 1, _, _, _, rfl, by decide, by simp [dotR], by simp, by simp⟩ (fun i y ρ hy hI => ?_) fun ρ hI => ?_
  · obtain ⟨t, b, u, v, w, rfl, hb, e, ht, hbb⟩ := hI
    rw [Nat.zero_add] at *
    obtain ⟨⟨q, r⟩, hp, rfl⟩ := PR_get hy
    have hi : i < ps.length := (List.getElem?_eq_some_iff.mp hp).1
    obtain ⟨h1, h2⟩ := h _ (List.mem_of_getElem? hp)
    refine ⟨_, rfl, fun kf hkf => ?_⟩
    have hz2 : i * (2 * m + 1) + (2 * m + 1) + (2 * m + 1) ≤ (ps.length + 1) * (2 * m + 1) := by
      have := Nat.mul_le_mul_right (2 * m + 1) (show i + 1 + 1 ≤ ps.length + 1 by omega)
      rwa [Nat.add_mul, Nat.add_mul, Nat.one_mul] at this
    have hby := mul_lt h1.dn h2.dn
    have hnn := mul_lt h1.1 h2.1
    have n1 := mul_lt ht hby
    have n2 := mul_lt hnn hbb
    have n3 := mul_lt hbb hby
    simp [t0__law_total_1, t1__law_total_1, t2__law_total_1, Fr]
    refine ⟨mul_ok h1.dn h2.dn (by omega), mul_ok ht hby (by omega), mul_ok h1.1 h2.1 (by omega), mul_ok hnn hbb (by omega), mul_ok hbb hby (by omega), ?_⟩
    refine hkf _ ⟨_, _, _, _, _, rfl, Int.mul_ne_zero hb (den_mul_ne q r), ?_, ?_, ?_⟩
    · rw [take_next hp, dot_app, ← e]
      show _ = _ + (q * r + 0)
      rw [Rat.add_zero, rat_mul, Rat.divInt_add_divInt _ _ hb (den_mul_ne q r)]
    · rw [show m + m + (i * (2 * m + 1) + 1) = i * (2 * m + 1) + 1 + (m + m) by omega] at n2
      refine Nat.lt_of_lt_of_le (add_lt (b := 0) n1 n2) (Nat.pow_le_pow_right (by decide) ?_)
      rw [Nat.add_mul]
      omega
    · refine Nat.lt_of_lt_of_le n3 (Nat.pow_le_pow_right (by decide) ?_)
      rw [Nat.add_mul]
      omega
  · obtain ⟨t, b, u, v, w, rfl, hb, e, ht, hbb⟩ := hI
    have hl : (PR ps).length = ps.length := List.length_map ..
    rw [Nat.zero_add, hl] at ht hbb e
    rw [List.take_length] at e
    simp [t2__law_total, fe__law_total]
    refine low_ok hb hbb ?_ ?_
    · rw [Nat.add_mul] at hz
      omega
    · simp
      rw [e]
      exact hk
theorem is_true_ok {w : Cw} {q r : Rat} {a b : Nat} (hq : Bd a q) (hr : Bd b r) (h : a + b < 8990) (hk : k (.d (.bool (w.so q r)))) : F__law_is_true [.d (Fr q), .d (.str w.str), .d (Fr r)] k x := by
  have c1 := cross_eq q r
  have c2 : q < r ↔ q.num * r.den < r.num * q.den := Rat.lt_iff _ _
  have c3 : q ≤ r ↔ q.num * r.den ≤ r.num * q.den := Rat.le_iff _ _
  have m1 := mul_ok hq.1 hr.dn (by omega)
  have m2 := mul_ok hr.1 hq.dn (by omega)
  cases w with
  | lt =>
    simp [F__law_is_true, runF, bt__law_is_true, t0__law_is_true, t1__law_is_true, t2__law_is_true, Cw.str, Fr]
    simp only [Cw.so, c2] at hk
    have w1 : ¬ (Str.ofString "<" = Str.ofString "=") := by decide
    have w2 : ¬ (Str.ofString "<" = Str.ofString "<=") := by decide
    simp only [if_neg w1]
    refine ⟨m1, m2, ?_⟩
    generalize q.num * r.den = u at *
    generalize r.num * q.den = v at *
    by_cases hh : u < v
    · have : ¬ v ≤ u := by omega
      simp [hh, this, w2] at hk ⊢
      exact hk
    · have : v ≤ u := by omega
      simp [hh, this, w2] at hk ⊢
      exact hk
  | le =>
    simp [F__law_is_true, runF, bt__law_is_true, t0__law_is_true, t1__law_is_true, t2__law_is_true, Cw.str, Fr]
    simp only [Cw.so, c3] at hk
    have w1 : ¬ (Str.ofString "<=" = Str.ofString "=") := by decide
    simp only [if_neg w1]
    refine ⟨m1, m2, ?_⟩
    generalize q.num * r.den = u at *
    generalize r.num * q.den = v at *
    by_cases hh : u < v
    · have h1 : ¬ v ≤ u := by omega
      have h2 : u ≤ v := by omega
      simp [hh, h1, h2] at hk ⊢
      exact hk
    · have h1 : v ≤ u := by omega
      have e : (u = v) ↔ u ≤ v := by omega
      simp only [e]
      simp [hh, h1] at hk ⊢
      exact hk
  | eq =>
    simp [F__law_is_true, runF, bt__law_is_true, t0__law_is_true, t1__law_is_true, t2__law_is_true, Cw.str, Fr]
    simp only [Cw.so, ← c1] at hk
    exact ⟨m1, m2, hk⟩
end
/-! ### lines -/
inductive Ln where
  | sum (ms : List (Rat × Nat)) (c : Rat)
  | shift (i : Nat) (c : Rat)
  | choice (w : Cw) (i j a b : Nat)
  | grt (i j : Nat)
  | lst (i j : Nat)
def MS (ms : List (Rat × Nat)) : List PyData := ms.map fun m => .tuple [Fr m.1, .int m.2]
def Ln.dat : Ln → PyData
  | .sum ms c => .tuple [.str "sum", .tuple (MS ms), Fr c]
  | .shift i c => .tuple [.str "shift", .int i, Fr c]
  | .choice w i j a b => .tuple [.str "choice", .int i, .str w.str, .int j, .int a, .int b]
  | .grt i j => .tuple [.str "greatest", .int i, .int j]
  | .lst i j => .tuple [.str "least", .int i, .int j]
def Ln.word : Ln → Str
  | .sum _ _ => "sum"
  | .shift _ _ => "shift"
  | .choice .. => "choice"
  | .grt _ _ => "greatest"
  | .lst _ _ => "least"
def Ln.ok (n : Nat) : Ln → Prop
  | .sum ms c => ms.length ≤ 3 ∧ (∀ m ∈ ms, Dr 3 3 m.1 ∧ m.2 < n) ∧ Dr 6 3 c
  | .shift i c => i < n ∧ Dr 3 3 c
  | .choice _ i j a b => i < n ∧ j < n ∧ a < n ∧ b < n
  | .grt i j => i < n ∧ j < n
  | .lst i j => i < n ∧ j < n
def accR (vs : List Rat) : Rat → List (Rat × Nat) → Rat
  | c, [] => c
  | c, m :: r => accR vs (c + m.1 * vg vs m.2) r
theorem acc_app (vs : List Rat) : ∀ (l m : List (Rat × Nat)) (c : Rat), accR vs c (l ++ m) = accR vs (accR vs c l) m
  | [], m, c => rfl
  | p :: l, m, c => acc_app vs l m _
theorem acc_dot (vs : List Rat) : ∀ (l : List (Rat × Nat)) (c : Rat), accR vs c l = dotR (l.map (fun m => (m.1, vg vs m.2)) ++ [(c, 1)])
  | [], c => by simp [accR, dotR]; grind
  | p :: l, c => by
    rw [accR, acc_dot vs l, List.map_cons, List.cons_append, dotR, dot_app, dot_app]
    simp [dotR]
    grind
def stepR (vs : List Rat) (t : Rat) : Ln → Rat
  | .sum ms c => accR vs c ms
  | .shift i c => vg vs i + c * t
  | .choice w i j a b => if w.so (vg vs i) (vg vs j) = true then vg vs a else vg vs b
  | .grt i j => if vg vs j ≤ vg vs i then vg vs i else vg vs j
  | .lst i j => if vg vs i ≤ vg vs j then vg vs i else vg vs j
def runR (vs : List Rat) (t : Rat) : List Ln → List Rat
  | [] => vs
  | L :: r => runR (vs ++ [stepR vs t L]) t r
theorem run_app (t : Rat) : ∀ (l m : List Ln) (vs : List Rat), runR vs t (l ++ m) = runR (runR vs t l) t m
  | [], m, vs => rfl
  | L :: l, m, vs => run_app t l m _
theorem run_len (t : Rat) : ∀ (l : List Ln) (vs : List Rat), (runR vs t l).length = vs.length + l.length
  | [], vs => rfl
  | L :: l, vs => by
    rw [runR, run_len t l]
    simp
    omega
/-- what goes ahead stays -/
theorem run_pre (t : Rat) : ∀ (l : List Ln) (vs : List Rat), ∃ r, runR vs t l = vs ++ r
  | [], vs => ⟨[], by simp [runR]⟩
  | L :: l, vs => by
    obtain ⟨r, e⟩ := run_pre t l (vs ++ [stepR vs t L])
    exact ⟨stepR vs t L :: r, by rw [runR, e]; simp⟩
theorem run_take (t : Rat) (l : List Ln) (vs : List Rat) (n : Nat) (h : n ≤ l.length) : (runR vs t l).take (vs.length + n) = runR vs t (l.take n) := by
  have e := run_app t (l.take n) (l.drop n) vs
  rw [List.take_append_drop] at e
  obtain ⟨r, e2⟩ := run_pre t (l.drop n) (runR vs t (l.take n))
  have hl : (runR vs t (l.take n)).length = vs.length + n := by rw [run_len, List.length_take, Nat.min_eq_left h]
  rw [e, e2, ← hl, List.take_left]
def progOk (n : Nat) (Ls : List Ln) : Prop := ∀ (i : Nat) (L : Ln), Ls[i]? = some L → L.ok (n + i)
theorem MS_get {l : List (Rat × Nat)} {i : Nat} {x : PyData} (h : (MS l)[i]? = some x) : ∃ p, l[i]? = some p ∧ x = .tuple [Fr p.1, .int p.2] := by
  unfold MS at h
  rw [List.getElem?_map] at h
  cases e : l[i]? with
  | none => rw [e] at h; cases h
  | some q => rw [e] at h; exact ⟨q, rfl, (Option.some.inj h).symm⟩
/-! ### sizes -/
@[irreducible] def NG : Nat := 27720 * (10 ^ 40 - 2) * (10 ^ 40 - 1) * (10 ^ 39 + 3)
theorem ng_pos : 0 < NG := by unfold NG; decide +kernel
theorem ng_lt : NG < 2 ^ 415 := by unfold NG; decide +kernel
def V (k : Nat) (q : Rat) : Prop := Rp (NG * 6 ^ k) (2 ^ (560 + 8 * k)) q
theorem V.succ {n : Nat} {q : Rat} (h : V n q) : V (n + 1) q := by
  unfold V
  have := Rp.lift h (M := 6) (by decide)
  rw [Nat.mul_assoc, ← Nat.pow_succ] at this
  refine this.mono ?_
  rw [show 560 + 8 * (n + 1) = 560 + 8 * n + 8 by omega, Nat.pow_add 2 _ 8]
  exact Nat.mul_le_mul_left _ (by decide)
theorem V.add {n : Nat} {q : Rat} (h : V n q) : ∀ m, V (n + m) q
  | 0 => h
  | m + 1 => V.succ (V.add h m)
theorem V.bd {n : Nat} {q : Rat} (h : V n q) (hn : n ≤ 16) : Bd 700 q := by
  refine Rp.bd h ?_ ?_
  · refine Nat.lt_of_lt_of_le (Nat.mul_lt_mul_of_lt_of_le ng_lt (Nat.pow_le_pow_right (by decide) hn) (by decide)) ?_
    decide +kernel
  · exact Nat.pow_lt_pow_right (by decide) (by omega)
theorem Dr.rp {f : Nat} {q : Rat} (h : Dr f 3 q) : Rp 6 (f * 6) q := by
  obtain ⟨a, b, rfl, h1, h2, h3⟩ := h
  refine (rp_dvd (N := 6) h2 (by decide) ?_).mono (Nat.mul_le_mul_right _ h1)
  have : b.natAbs = 1 ∨ b.natAbs = 2 ∨ b.natAbs = 3 := by omega
  rcases this with e | e | e <;> rw [e] <;> decide
theorem mg_le (n : Nat) : 64 * (NG * 6 ^ n) ≤ 2 ^ (560 + 8 * n) := by
  have h1 : 6 ^ n ≤ 2 ^ (8 * n) := by
    rw [Nat.pow_mul]
    exact Nat.pow_le_pow_left (by decide) _
  rw [Nat.pow_add, ← Nat.mul_assoc]
  refine Nat.mul_le_mul ?_ h1
  have := ng_lt
  have h2 : 64 * 2 ^ 415 ≤ 2 ^ 560 := by decide +kernel
  omega
theorem dr_rp {f n : Nat} {c : Rat} (h : Dr f 3 c) (hf : f ≤ 6) : Rp (NG * 6 ^ (n + 1)) (2 ^ (560 + 8 * n)) c := by
  have h1 := h.rp.lift (M := NG * 6 ^ n) (Nat.mul_pos ng_pos (Nat.pow_pos (by decide)))
  rw [show 6 * (NG * 6 ^ n) = NG * 6 ^ (n + 1) by rw [Nat.pow_succ]; ac_rfl] at h1
  refine h1.mono (Nat.le_trans ?_ (mg_le n))
  exact Nat.mul_le_mul_right _ (by omega)
theorem term_rp {n : Nat} {c v : Rat} (h : Dr 3 3 c) (hv : V n v) : Rp (NG * 6 ^ (n + 1)) (18 * 2 ^ (560 + 8 * n)) (c * v) := by
  have h1 := h.rp.mul hv
  rw [show 6 * (NG * 6 ^ n) = NG * 6 ^ (n + 1) by rw [Nat.pow_succ]; ac_rfl] at h1
  exact h1
theorem acc_rp {vs : List Rat} {n : Nat} (hv : ∀ q ∈ vs, V n q) : ∀ (ms : List (Rat × Nat)) (c : Rat) (B : Nat), (∀ m ∈ ms, Dr 3 3 m.1 ∧ m.2 < vs.length) → Rp (NG * 6 ^ (n + 1)) B c →
    Rp (NG * 6 ^ (n + 1)) (B + ms.length * (18 * 2 ^ (560 + 8 * n))) (accR vs c ms)
  | [], c, B, _, hc => by simpa [accR] using hc
  | m :: ms, c, B, h, hc => by
    obtain ⟨h1, h2⟩ := h m (List.mem_cons_self ..)
    have := acc_rp hv ms (c + m.1 * vg vs m.2) _ (fun z hz => h z (List.mem_cons_of_mem _ hz)) (hc.add (term_rp h1 (hv _ (vg_mem h2))))
    rw [accR]
    refine this.mono (Nat.le_of_eq ?_)
    generalize 18 * 2 ^ (560 + 8 * n) = W
    rw [List.length_cons, Nat.succ_mul, Nat.add_assoc, Nat.add_comm W]
theorem acc_V {vs : List Rat} {n : Nat} {ms : List (Rat × Nat)} {c : Rat} (hv : ∀ q ∈ vs, V n q) (hm : ms.length ≤ 3) (h : ∀ m ∈ ms, Dr 3 3 m.1 ∧ m.2 < vs.length) (hc : Dr 6 3 c) : V (n + 1) (accR vs c ms) := by
  unfold V
  refine (acc_rp hv ms c _ h (dr_rp hc (by decide))).mono ?_
  have h1 := Nat.mul_le_mul_right (18 * 2 ^ (560 + 8 * n)) hm
  rw [show 560 + 8 * (n + 1) = 560 + 8 * n + 8 by omega, Nat.pow_add 2 _ 8]
  generalize 2 ^ (560 + 8 * n) = A at *
  omega
theorem step_V {vs : List Rat} {t : Rat} {n : Nat} {L : Ln} (hv : ∀ q ∈ vs, V n q) (ht : V n t) (h : L.ok vs.length) : V (n + 1) (stepR vs t L) := by
  cases L with
  | sum ms c => exact acc_V hv h.1 h.2.1 h.2.2
  | shift i c =>
    have h1 : Rp _ _ _ := (hv _ (vg_mem h.1)).succ
    have h2 := term_rp h.2 ht
    unfold V
    have h0 : Rp (NG * 6 ^ (n + 1)) (6 * 2 ^ (560 + 8 * n)) (vg vs i) := by
      have := Rp.lift (hv _ (vg_mem h.1)) (M := 6) (by decide)
      rw [Nat.mul_assoc, ← Nat.pow_succ] at this
      exact this.mono (Nat.le_of_eq (Nat.mul_comm _ _))
    refine (h0.add h2).mono ?_
    rw [show 560 + 8 * (n + 1) = 560 + 8 * n + 8 by omega, Nat.pow_add 2 _ 8]
    generalize 2 ^ (560 + 8 * n) = A at *
    omega
  | choice w i j a b =>
    show V (n + 1) (if w.so (vg vs i) (vg vs j) = true then vg vs a else vg vs b)
    split
    · exact (hv _ (vg_mem h.2.2.1)).succ
    · exact (hv _ (vg_mem h.2.2.2)).succ
  | grt i j =>
    show V (n + 1) (if vg vs j ≤ vg vs i then vg vs i else vg vs j)
    split
    · exact (hv _ (vg_mem h.1)).succ
    · exact (hv _ (vg_mem h.2)).succ
  | lst i j =>
    show V (n + 1) (if vg vs i ≤ vg vs j then vg vs i else vg vs j)
    split
    · exact (hv _ (vg_mem h.1)).succ
    · exact (hv _ (vg_mem h.2)).succ
theorem prog_cons {n : Nat} {L : Ln} {Ls : List Ln} (h : progOk n (L :: Ls)) : L.ok n ∧ progOk (n + 1) Ls := by
  refine ⟨h 0 L rfl, fun i M hM => ?_⟩
  have := h (i + 1) M (by simpa using hM)
  rwa [show n + (i + 1) = n + 1 + i by omega] at this
theorem prog_take {n : Nat} {Ls : List Ln} (h : progOk n Ls) (m : Nat) : progOk n (Ls.take m) := fun i L hL => by
  rw [List.getElem?_take] at hL
  split at hL
  · exact h i L hL
  · cases hL
theorem run_V {t : Rat} : ∀ {Ls : List Ln} {vs : List Rat} {n : Nat}, (∀ q ∈ vs, V n q) → V n t → progOk vs.length Ls → ∀ q ∈ runR vs t Ls, V (n + Ls.length) q
  | [], vs, n, hv, _, _ => hv
  | L :: Ls, vs, n, hv, ht, hp => by
    obtain ⟨h1, h2⟩ := prog_cons hp
    have := run_V (Ls := Ls) (vs := vs ++ [stepR vs t L]) (n := n + 1) (fun q hq => ?_) ht.succ (by simpa using h2)
    · rw [runR, List.length_cons, show n + (Ls.length + 1) = n + 1 + Ls.length by omega]
      exact this
    · rcases List.mem_append.mp hq with h | h
      · exact (hv q h).succ
      · rw [List.mem_singleton.mp h]
        exact step_V hv ht h1
end Fd
end
section
/-! k45 to k57: what the program's lines come to; programs drawn. -/
namespace Fd
open PySem Un Pg
@[simp] theorem w_sh_su : (("shift" : Str) = "sum") = False := eq_false (by decide)
@[simp] theorem w_ch_su : (("choice" : Str) = "sum") = False := eq_false (by decide)
@[simp] theorem w_gr_su : (("greatest" : Str) = "sum") = False := eq_false (by decide)
@[simp] theorem w_le_su : (("least" : Str) = "sum") = False := eq_false (by decide)
@[simp] theorem w_ch_sh : (("choice" : Str) = "shift") = False := eq_false (by decide)
@[simp] theorem w_gr_sh : (("greatest" : Str) = "shift") = False := eq_false (by decide)
@[simp] theorem w_le_sh : (("least" : Str) = "shift") = False := eq_false (by decide)
@[simp] theorem w_gr_ch : (("greatest" : Str) = "choice") = False := eq_false (by decide)
@[simp] theorem w_le_ch : (("least" : Str) = "choice") = False := eq_false (by decide)
@[simp] theorem w_le_gr : (("least" : Str) = "greatest") = False := eq_false (by decide)
@[simp] theorem slc_n {xs : List PyData} {a b} {k : KA} : slcW (.new xs) a b k ↔ k (.new (cut xs a b)) := ⟨fun ⟨_, h1, h⟩ => by cases h1; exact h, fun h => ⟨_, rfl, h⟩⟩
theorem acc_take {vs : List Rat} {ms : List (Rat × Nat)} {c : Rat} {i : Nat} {m : Rat × Nat} (h : ms[i]? = some m) : accR vs c (ms.take (i + 1)) = accR vs c (ms.take i) + m.1 * vg vs m.2 := by
  rw [take_next h, acc_app]
  rfl
theorem bare_Fr (q : Rat) : bare (Fr q) = true := by simp [Fr, bare, bareAll]
section
variable {k : KA} {x : KX}
theorem line_at_ok {vs : List Rat} {t : Rat} {n : Nat} {L : Ln} (hv : ∀ q ∈ vs, V n q) (ht : V n t) (hn : n ≤ 14) (hL : L.ok vs.length) (hk : k (.d (Fr (stepR vs t L)))) : F__line_at [.d L.dat, .d (.list (PL vs)), .d (Fr t)] k x := by
  have bv : ∀ {i : Nat}, i < vs.length → Bd 700 (vg vs i) := fun h => (hv _ (vg_mem h)).bd (by omega)
  cases L with
  | sum ms c =>
    obtain ⟨h1, h2, h3⟩ := hL
    simp [F__line_at, runF, bt__line_at, t0__line_at, t1__line_at, Ln.dat, idx2, t0__line_at_1a, t1__line_at_1a, -x_loop]
    rw [x_loop]
    simp
    let I : Nat → List SV → Prop := fun i ρ => ∃ u v, ρ = [.d (.tuple [.str "sum", .tuple (MS ms), Fr c]), .d (.list (PL vs)), .d (Fr t), .d (.str "sum"), .un, .d (Fr (accR vs c (ms.take i))), .un, .un, u, v]
    refine loop_inv I (i := 0) ⟨_, _, rfl⟩ (fun i y ρ hy hI => ?_) fun ρ hI => ?_
    · obtain ⟨u, v, rfl⟩ := hI
      rw [Nat.zero_add] at *
      obtain ⟨⟨q, r⟩, hp, rfl⟩ := MS_get hy
      obtain ⟨g1, g2⟩ := h2 _ (List.mem_of_getElem? hp)
      refine ⟨_, rfl, fun kf hkf => ?_⟩
      simp [fe__line_at]
      refine vg_l g2 ?_
      have b1 := (g1.bd (b := 2) (by decide) (by decide)).mul (bv g2)
      refine times_ok (g1.bd (b := 2) (by decide) (by decide)) (bv g2) (by decide) ?_
      simp
      refine plus_ok ((acc_V hv (ms := ms.take i) (by rw [List.length_take]; omega) (fun m hm => h2 m (List.mem_of_mem_take hm)) h3).bd (by omega)) b1 (by decide) ?_
      simp
      have e := acc_take (vs := vs) (c := c) hp
      dsimp only at e
      rw [← e]
      exact hkf _ ⟨_, _, rfl⟩
    · obtain ⟨u, v, rfl⟩ := hI
      have hl : (MS ms).length = ms.length := List.length_map ..
      rw [Nat.zero_add, hl, List.take_length]
      simp [t2__line_at_1a]
      exact hk
  | shift i c =>
    simp [F__line_at, runF, bt__line_at, t0__line_at, t1__line_at, Ln.dat, idx2, t2__line_at, fe__line_at]
    refine vg_l hL.1 ?_
    have b0 := hL.2.bd (b := 2) (by decide) (by decide)
    refine times_ok b0 (ht.bd (by omega)) (by decide) ?_
    simp
    refine plus_ok (bv hL.1) (b0.mul (ht.bd (by omega))) (by decide) ?_
    have hk : k (.d (Fr (vg vs i + c * t))) := hk
    simpa using hk
  | choice w i j a b =>
    simp [F__line_at, runF, bt__line_at, t0__line_at, t1__line_at, Ln.dat, idx2, idx3, idx4, idx5, t2__line_at, t3__line_at, fe__line_at]
    refine vg_l hL.1 (vg_l hL.2.1 ?_)
    refine order_ok (bv hL.1) (bv hL.2.1) (by decide) ?_
    simp
    refine is_so_ok ?_
    simp
    have hk : k (.d (Fr (if w.so (vg vs i) (vg vs j) = true then vg vs a else vg vs b))) := hk
    cases hw : w.so (vg vs i) (vg vs j) with
    | true =>
      rw [hw, if_pos rfl] at hk
      simp
      exact vg_l hL.2.2.1 hk
    | false =>
      rw [hw, if_neg (by decide)] at hk
      simp
      exact vg_l hL.2.2.2 hk
  | grt i j =>
    simp [F__line_at, runF, bt__line_at, t0__line_at, t1__line_at, Ln.dat, idx2, t2__line_at, t3__line_at, t4__line_at]
    refine vg_l hL.1 (vg_l hL.2 ?_)
    simp [t5__line_at, fe__line_at]
    refine order_ok (bv hL.1) (bv hL.2) (by decide) ?_
    have hk : k (.d (Fr (if vg vs j ≤ vg vs i then vg vs i else vg vs j))) := hk
    by_cases h : vg vs j ≤ vg vs i
    · rw [if_pos h] at hk
      simp [sgR_ge, h, t6__line_at]
      exact hk
    · rw [if_neg h] at hk
      have h' : ¬ 0 ≤ sgR (vg vs i - vg vs j) := fun z => h ((sgR_ge _ _).mp z)
      simp [h', t6__line_at]
      exact hk
  | lst i j =>
    simp [F__line_at, runF, bt__line_at, t0__line_at, t1__line_at, Ln.dat, idx2, t2__line_at, t3__line_at, t4__line_at]
    refine vg_l hL.1 (vg_l hL.2 ?_)
    simp [t5__line_at, fe__line_at]
    refine order_ok (bv hL.1) (bv hL.2) (by decide) ?_
    have hk : k (.d (Fr (if vg vs i ≤ vg vs j then vg vs i else vg vs j))) := hk
    by_cases h : vg vs i ≤ vg vs j
    · rw [if_pos h] at hk
      have h' : sgR (vg vs i - vg vs j) ≤ 0 := (sgR_le _ _).mpr h
      simp [h', t6__line_at]
      exact hk
    · rw [if_neg h] at hk
      have h' : ¬ sgR (vg vs i - vg vs j) ≤ 0 := fun z => h ((sgR_le _ _).mp z)
      simp [h', t6__line_at]
      exact hk
theorem dat_get {Ls : List Ln} {i : Nat} {y : PyData} (h : (Ls.map Ln.dat)[i]? = some y) : ∃ L, Ls[i]? = some L ∧ y = L.dat := by
  rw [List.getElem?_map] at h
  cases e : Ls[i]? with
  | none => rw [e] at h; cases h
  | some q => rw [e] at h; exact ⟨q, rfl, (Option.some.inj h).symm⟩
theorem run_step {t : Rat} {Ls : List Ln} {vs : List Rat} {i : Nat} {L : Ln} (h : Ls[i]? = some L) : runR vs t (Ls.take (i + 1)) = runR vs t (Ls.take i) ++ [stepR (runR vs t (Ls.take i)) t L] := by
  rw [take_next h, run_app]
  rfl
theorem PL_snoc1 (l : List Rat) (q : Rat) : PL l ++ [Fr q] = PL (l ++ [q]) := by simp [PL]
theorem run_ok {vs : List Rat} {t : Rat} {Ls : List Ln} (hv : ∀ q ∈ vs, V 0 q) (ht : V 0 t) (hn : Ls.length ≤ 13) (hl : vs.length ≤ 100) (hL : progOk vs.length Ls) (hk : k (.d (PT (runR vs t Ls)))) : F_run [.d (.tuple (Ls.map Ln.dat)), .d (PT vs), .d (Fr t)] k x := by
  simp [F_run, runF, bt_run, t0_run, PT]
  rw [t1_run, x_cons, x_loop]
  simp
  let I : Nat → List SV → Prop := fun i ρ => ∃ u, ρ = [.d (.tuple (Ls.map Ln.dat)), .d (.tuple (PL vs)), .d (Fr t), .own (PL (runR vs t (Ls.take i))), u]
  refine loop_inv I (i := 0) ⟨.un, by simp [runR]⟩ (fun i y ρ hy hI => ?_) fun ρ hI => ?_
  · obtain ⟨u, rfl⟩ := hI
    rw [Nat.zero_add] at *
    obtain ⟨L, hp, rfl⟩ := dat_get hy
    have hi : i < Ls.length := (List.getElem?_eq_some_iff.mp hp).1
    refine ⟨_, rfl, fun kf hkf => ?_⟩
    have hlen : (runR vs t (Ls.take i)).length = vs.length + i := by rw [run_len, List.length_take, Nat.min_eq_left (by omega)]
    have hV := run_V hv ht (prog_take hL i)
    rw [List.length_take, Nat.min_eq_left (by omega), Nat.zero_add] at hV
    simp [fe_run]
    refine line_at_ok hV (by simpa using ht.add i) (by omega) (by rw [hlen]; exact hL i L hp) ?_
    refine ⟨_, rfl, bare_Fr _, ?_⟩
    simp [PL_len, hlen]
    refine ⟨Nat.lt_of_lt_of_le (show vs.length + i < 1000 by omega) (sz 1000 (by decide)), ?_⟩
    rw [PL_snoc1, ← run_step hp]
    exact hkf _ ⟨_, rfl⟩
  · obtain ⟨u, rfl⟩ := hI
    rw [Nat.zero_add, List.length_map, List.take_length]
    simp [t2_run]
    exact hk
/-! ### what is drawn -/
theorem intsOf_map : ∀ l : List Nat, intsOf (l.map fun (i : Nat) => PyData.int i) = some (l.map fun (i : Nat) => (i : Int))
  | [] => rfl
  | i :: r => by simp [intsOf, intsOf_map r]
theorem ins_mem {a k : Int} : ∀ {l : List Int}, a ∈ insI k l → a = k ∨ a ∈ l
  | [], h => .inl (List.mem_singleton.mp h)
  | b :: l, h => by
    unfold insI at h
    split at h
    · exact List.mem_cons.mp h
    · split at h
      · exact .inr h
      · rcases List.mem_cons.mp h with rfl | h
        · exact .inr (List.mem_cons_self ..)
        · rcases ins_mem h with h | h
          · exact .inl h
          · exact .inr (List.mem_cons_of_mem _ h)
theorem srt_mem {a : Int} : ∀ {l : List Int}, a ∈ srtI l → a ∈ l
  | [], h => nomatch h
  | b :: l, h => by
    rcases ins_mem h with rfl | h
    · exact List.mem_cons_self ..
    · exact List.mem_cons_of_mem _ (srt_mem h)
theorem ins_len (k : Int) : ∀ l : List Int, (insI k l).length ≤ l.length + 1
  | [] => Nat.le_refl _
  | b :: l => by
    unfold insI
    split
    · simp
    · split
      · simp
      · simp only [List.length_cons]
        have := ins_len k l
        omega
theorem srt_len : ∀ l : List Int, (srtI l).length ≤ l.length
  | [] => Nat.le_refl _
  | b :: l => by
    have h1 := ins_len b (srtI l)
    have h2 := srt_len l
    show (insI b (srtI l)).length ≤ l.length + 1
    omega
theorem cut_sub {α : Type} {xs : List α} {lo hi : Option Int} {a : α} (h : a ∈ cut xs lo hi) : a ∈ xs := by
  unfold cut at h
  exact List.mem_of_mem_drop (List.mem_of_mem_take h)
theorem cut_len {α : Type} (xs : List α) (lo hi : Option Int) : (cut xs lo hi).length ≤ xs.length := by
  unfold cut
  rw [List.length_take, List.length_drop]
  omega
theorem cut_map {α β : Type} (f : α → β) (xs : List α) (lo hi : Option Int) : cut (xs.map f) lo hi = (cut xs lo hi).map f := by
  unfold cut
  rw [List.length_map, ← List.map_drop, ← List.map_take]
theorem sset_nat {l : List Nat} {n : Nat} {kk : KA} (hl : l.length ≤ 60) (hn : ∀ i ∈ l, i < n) (hk : ∀ m : List Nat, m.length ≤ l.length → (∀ i ∈ m, i < n) → kk (.new (m.map fun (i : Nat) => PyData.int i))) : w1 .sset (.new (l.map fun (i : Nat) => PyData.int i)) kk := by
  refine ⟨_, rfl, _, intsOf_map l, by rw [List.length_map]; omega, ?_⟩
  generalize hs : srtI (l.map fun (i : Nat) => (i : Int)) = s
  have h1 : ∀ a ∈ s, ∃ i : Nat, a = i ∧ i < n := fun a ha => by
    rw [← hs] at ha
    obtain ⟨i, hi, rfl⟩ := List.mem_map.mp (srt_mem ha)
    exact ⟨i, rfl, hn i hi⟩
  have h2 : s.length ≤ l.length := by
    have := srt_len (l.map fun (i : Nat) => (i : Int))
    rw [hs, List.length_map] at this
    exact this
  have e : s.map PyData.int = (s.map Int.toNat).map fun (i : Nat) => PyData.int i := by
    rw [List.map_map]
    refine List.map_congr_left fun a ha => ?_
    obtain ⟨i, rfl, _⟩ := h1 a ha
    simp
  rw [e]
  refine hk _ (by rw [List.length_map]; exact h2) fun i hi => ?_
  obtain ⟨a, ha, rfl⟩ := List.mem_map.mp hi
  obtain ⟨i, rfl, h⟩ := h1 a ha
  simpa using h
theorem list_MS {n : Nat} : ∀ {ys : List PyData}, (∀ y ∈ ys, ∃ m : Rat × Nat, (Dr 3 3 m.1 ∧ m.2 < n) ∧ y = .tuple [Fr m.1, .int m.2]) → ∃ ms, ys = MS ms ∧ ∀ m ∈ ms, Dr 3 3 m.1 ∧ m.2 < n
  | [], _ => ⟨[], rfl, fun _ h => nomatch h⟩
  | y :: ys, h => by
    obtain ⟨q, hq, rfl⟩ := h y (List.mem_cons_self ..)
    obtain ⟨l, rfl, hl⟩ := list_MS fun z hz => h z (List.mem_cons_of_mem _ hz)
    exact ⟨q :: l, rfl, fun r hr => by
      rcases List.mem_cons.mp hr with rfl | hr
      · exact hq
      · exact hl r hr⟩
def five : List Str := ["sum", "shift", "choice", "greatest", "least"]
theorem line_ok {n : Nat} {w : Str} (h0 : 1 ≤ n) (h1 : n ≤ 1000) (hw : w ∈ five) (hk : ∀ L : Ln, L.ok n → L.word = w → k (.d L.dat)) : F__law_line [.src, .d (.int n), .d (.str w)] k x := by
  simp [F__law_line, runF, bt__law_line, t0__law_line, RngOk, isNo, wipeS]
  refine cmp_all (P := fun y => ∃ i : Nat, i < n ∧ y = .int i) (fun y hy => ⟨_, rfl, fun ka h => ?_⟩) (by simpa [rngL] using sz 4 (by decide)) fun ys hl hp => ?_
  · simp [fe__law_line]
    exact name_ok h0 h1 fun i hi => h _ ⟨i, hi, rfl⟩
  · rw [List.nil_append]
    have hl4 : ys.length = 4 := by rw [hl]; simp [rngL]
    match ys, hl4, hp with
    | [y1, y2, y3, y4], _, hp =>
    obtain ⟨a, ha, rfl⟩ := hp y1 (by simp)
    obtain ⟨b, hb, rfl⟩ := hp y2 (by simp)
    obtain ⟨c, hc, rfl⟩ := hp y3 (by simp)
    obtain ⟨d, hd, rfl⟩ := hp y4 (by simp)
    simp [setD]
    simp [t1__law_line, fe__law_line]
    have hfr : ∀ {kk : KA} {xx : KX}, (∀ q, Dr 3 3 q → kk (.d (Fr q))) → F__law_fraction [.src, .d (.int 3), .d (.int 3)] kk xx := fun {kk xx} h => fraction_ok (f := 3) (d := 3) (by decide) (by decide) (by decide) h
    have hfr6 : ∀ {kk : KA} {xx : KX}, (∀ q, Dr 6 3 q → kk (.d (Fr q))) → F__law_fraction [.src, .d (.int 6), .d (.int 3)] kk xx := fun {kk xx} h => fraction_ok (f := 6) (d := 3) (by decide) (by decide) (by decide) h
    refine hfr fun q hq => ?_
    simp
    unfold five at hw
    simp only [List.mem_cons, List.not_mem_nil, or_false] at hw
    rcases hw with rfl | rfl | rfl | rfl | rfl
    · simp [t2__law_line, t0__law_line_2a, fe__law_line, szl]
      refine draw_ok (by decide) (by decide) fun r hr0 hr1 => ?_
      simp
      have e : ([PyData.int a, PyData.int b, PyData.int c] : List PyData) = [a, b, c].map fun (i : Nat) => PyData.int i := rfl
      rw [e, cut_map]
      have hcl : (cut [a, b, c] none (some r)).length ≤ 3 := cut_len [a, b, c] none (some r)
      refine sset_nat (n := n) (by omega) (fun i hi => ?_) fun m hm hmn => ?_
      · have := cut_sub hi
        simp at this
        rcases this with rfl | rfl | rfl <;> assumption
      · simp [t1__law_line_2a]
        simp [t2__law_line_2a, isNo, wipeS]
        refine cmp_all (P := fun y => ∃ m : Rat × Nat, (Dr 3 3 m.1 ∧ m.2 < n) ∧ y = .tuple [Fr m.1, .int m.2]) (fun y hy => ?_) ?_ fun ys hl hp => ?_
        · obtain ⟨i, hi, rfl⟩ := List.mem_map.mp hy
          refine ⟨_, rfl, fun ka h => ?_⟩
          simp [fe__law_line, szl]
          refine hfr fun q hq => ?_
          simp [szl]
          exact h _ ⟨(q, i), ⟨hq, hmn i hi⟩, rfl⟩
        · simp
          exact sz _ (by omega)
        · obtain ⟨ms, rfl, hms⟩ := list_MS hp
          simp [fe__law_line, szl]
          refine hfr6 fun c hc => ?_
          simp [szl]
          refine hk (.sum ms c) ⟨?_, hms, hc⟩ rfl
          simp [MS] at hl
          omega
    · simp [t2__law_line, t3__law_line, szl]
      exact hk (.shift a q) ⟨ha, hq⟩ rfl
    · simp [t2__law_line, t3__law_line, t4__law_line, fe__law_line, szl]
      refine pick_ok (by simp) (by simp) fun y hy => ?_
      simp [szl]
      simp at hy
      rcases hy with rfl | rfl | rfl
      · exact hk (.choice .lt a b c d) ⟨ha, hb, hc, hd⟩ rfl
      · exact hk (.choice .le a b c d) ⟨ha, hb, hc, hd⟩ rfl
      · exact hk (.choice .eq a b c d) ⟨ha, hb, hc, hd⟩ rfl
    · simp [t2__law_line, t3__law_line, t4__law_line, t5__law_line, szl]
      exact hk (.grt a b) ⟨ha, hb⟩ rfl
    · simp [t2__law_line, t3__law_line, t4__law_line, t5__law_line, szl]
      exact hk (.lst a b) ⟨ha, hb⟩ rfl
theorem prog_snoc {n : Nat} {Ls : List Ln} {L : Ln} (h : progOk n Ls) (hL : L.ok (n + Ls.length)) : progOk n (Ls ++ [L]) := fun i M hM => by
  by_cases hi : i < Ls.length
  · rw [List.getElem?_append_left hi] at hM
    exact h i M hM
  · rw [List.getElem?_append_right (by omega)] at hM
    have e : i - Ls.length = 0 := by
      have := (List.getElem?_eq_some_iff.mp hM).1
      simp at this
      omega
    rw [e] at hM
    cases hM
    rw [show i = Ls.length by omega]
    exact hL
theorem program_ok {n : Nat} {ws : List Str} (h0 : 1 ≤ n) (h1 : n ≤ 100) (hn : ws.length ≤ 100) (hw : ∀ w ∈ ws, w ∈ five) (hk : ∀ Ls : List Ln, Ls.length = ws.length → progOk n Ls → Ls.map Ln.word = ws → k (.d (.tuple (Ls.map Ln.dat)))) :
    F__law_program [.src, .d (.int n), .d (.list (ws.map PyData.str))] k x := by
  simp [F__law_program, runF, bt__law_program, t0__law_program]
  rw [t1__law_program, x_cons, x_loop]
  simp
  let I : Nat → List SV → Prop := fun i ρ => ∃ (Ls : List Ln) (u : SV), ρ = [.src, .d (.int n), .d (.list (ws.map PyData.str)), .own (Ls.map Ln.dat), u] ∧ Ls.length = i ∧ progOk n Ls ∧ Ls.map Ln.word = ws.take i
  refine loop_inv I (i := 0) ⟨[], .un, rfl, rfl, fun i L h => by simp at h, rfl⟩ (fun i y ρ hy hI => ?_) fun ρ hI => ?_
  · obtain ⟨Ls, u, rfl, hl, hp, hws⟩ := hI
    rw [Nat.zero_add] at *
    rw [List.getElem?_map] at hy
    cases e : ws[i]? with
    | none => rw [e] at hy; cases hy
    | some w =>
    rw [e] at hy
    cases hy
    have hi : i < ws.length := (List.getElem?_eq_some_iff.mp e).1
    refine ⟨_, rfl, fun kf hkf => ?_⟩
    simp [fe__law_program]
    have e2 : (n : Int) + (Ls.length : Int) = ((n + Ls.length : Nat) : Int) := by simp
    rw [e2]
    refine line_ok (by omega) (by omega) (hw w (List.mem_of_getElem? e)) fun L hL hLw => ?_
    simp
    refine ⟨Nat.lt_of_lt_of_le (show Ls.length < 1000 by omega) (sz 1000 (by decide)), ?_⟩
    refine hkf _ ⟨Ls ++ [L], .d (.str w), by simp, by simp; omega, prog_snoc hp hL, ?_⟩
    rw [List.map_append, hws, take_next e]
    simp [hLw]
  · obtain ⟨Ls, u, rfl, hl, hp, hws⟩ := hI
    rw [Nat.zero_add, List.length_map] at hl hws
    rw [List.take_length] at hws
    simp [t2__law_program]
    exact hk Ls hl hp hws
end
end Fd
end
section
namespace Lk46
open PySem Un Pg Fd
abbrev n__law_walk : List Str := ["_law_lines", "_law_spot_here", "_law_tick_here", "_law_known", "_law_line_here", "_law_is_so", "_law_by", "_law_at"]
def b__law_walk : Sm := (.cons (.set 3 (.un .list (.var 1))) (.cons (.loop (.nm 4) (.var 0) (.cons (.ifs (.bin .eq (.bin .idx (.var 4) (.dat (.int 0))) (.dat (.str "sum"))) (.cons (.app 3 (.call 58 [0] (.cons (.bin .add (.cmp [6, 7] (.tup (.cons (.var 6) (.cons (.bin .idx (.var 3) (.var 7)) .nil))) (.tp [6, 7]) (.bin .idx (.var 4) (.dat (.int 1))) .no) (.lst (.cons (.tup (.cons (.bin .idx (.var 4) (.dat (.int 2))) (.cons (.tup (.cons (.dat (.int 1)) (.cons (.dat (.int 1)) .nil))) .nil))) .nil))) .nil) .nil)) .nil) (.cons (.ifs (.bin .eq (.bin .idx (.var 4) (.dat (.int 0))) (.dat (.str "shift"))) (.cons (.app 3 (.call 58 [0] (.cons (.lst (.cons (.tup (.cons (.bin .idx (.var 3) (.bin .idx (.var 4) (.dat (.int 1)))) (.cons (.tup (.cons (.dat (.int 1)) (.cons (.dat (.int 1)) .nil))) .nil))) (.cons (.tup (.cons (.bin .idx (.var 4) (.dat (.int 2))) (.cons (.var 2) .nil))) .nil))) .nil) .nil)) .nil) (.cons (.ifs (.bin .eq (.bin .idx (.var 4) (.dat (.int 0))) (.dat (.str "choice"))) (.cons (.set 5 (.call 59 [0, 1, 2] (.cons (.bin .idx (.var 3) (.bin .idx (.var 4) (.dat (.int 1)))) (.cons (.bin .idx (.var 4) (.dat (.int 2))) (.cons (.bin .idx (.var 3) (.bin .idx (.var 4) (.dat (.int 3)))) .nil))) .nil)) (.cons (.app 3 (.ife (.var 5) (.bin .idx (.var 3) (.bin .idx (.var 4) (.dat (.int 4)))) (.bin .idx (.var 3) (.bin .idx (.var 4) (.dat (.int 5)))))) .nil)) (.cons (.set 5 (.call 59 [0, 1, 2] (.cons (.bin .idx (.var 3) (.bin .idx (.var 4) (.dat (.int 1)))) (.cons (.dat (.str "<")) (.cons (.bin .idx (.var 3) (.bin .idx (.var 4) (.dat (.int 2)))) .nil))) .nil)) (.cons (.app 3 (.ife (.bin .eq (.var 5) (.bin .eq (.bin .idx (.var 4) (.dat (.int 0))) (.dat (.str "greatest")))) (.bin .idx (.var 3) (.bin .idx (.var 4) (.dat (.int 2)))) (.bin .idx (.var 3) (.bin .idx (.var 4) (.dat (.int 1)))))) .nil))) .nil)) .nil)) .nil)) (.cons (.ret (.un .tuple (.var 3))) .nil)))
def fe__law_walk : FE := fun f => match f with
  | 58 => F__law_total
  | 59 => F__law_is_true
  | _ => fun _ _ _ => False
@[irreducible] def F__law_walk : List SV → KA → KX → Prop := runF fe__law_walk 3 8 b__law_walk
abbrev n__law_worth : List Str := ["_law_shape", "_law_spot_here", "_law_tick_here"]
def b__law_worth : Sm := (.cons (.ret (.call 58 [0] (.cons (.bin .add (.zl (.cons (.bin .idx (.var 0) (.dat (.int 0))) (.cons (.var 1) .nil))) (.lst (.cons (.tup (.cons (.bin .idx (.var 0) (.dat (.int 1))) (.cons (.tup (.cons (.dat (.int 1)) (.cons (.dat (.int 1)) .nil))) .nil))) (.cons (.tup (.cons (.bin .idx (.var 0) (.dat (.int 2))) (.cons (.var 2) .nil))) .nil)))) .nil) .nil)) .nil)
def fe__law_worth : FE := fun f => match f with
  | 58 => F__law_total
  | _ => fun _ _ _ => False
@[irreducible] def F__law_worth : List SV → KA → KX → Prop := runF fe__law_worth 3 3 b__law_worth
abbrev n__law_great : List Str := ["_law_bowl_here"]
def b__law_great : Sm := (.cons (.ret (.call 56 [0, 1] (.cons (.var 0) (.cons (.lst (.cons (.tup (.cons (.bin .sub (.bin .pow (.dat (.int 10)) (.dat (.int 40))) (.dat (.int 1))) (.cons (.bin .sub (.bin .pow (.dat (.int 10)) (.dat (.int 40))) (.dat (.int 2))) .nil))) (.cons (.tup (.cons (.bin .sub (.dat (.int 1)) (.bin .pow (.dat (.int 10)) (.dat (.int 40)))) (.cons (.dat (.int 1)) .nil))) (.cons (.tup (.cons (.dat (.int 1)) (.cons (.bin .sub (.bin .pow (.dat (.int 10)) (.dat (.int 40))) (.dat (.int 1))) .nil))) (.cons (.tup (.cons (.un .neg (.dat (.int 7))) (.cons (.bin .add (.bin .pow (.dat (.int 10)) (.dat (.int 39))) (.dat (.int 3))) .nil))) .nil))))) .nil)) .nil)) .nil)
def fe__law_great : FE := fun f => match f with
  | 56 => F__law_pick
  | _ => fun _ _ _ => False
@[irreducible] def F__law_great : List SV → KA → KX → Prop := runF fe__law_great 1 1 b__law_great
abbrev n__law_tick : List Str := ["_law_bowl_here", "_law_own"]
def b__law_tick : Sm := (.cons (.set 1 (.call 17 [0, 1, 2] (.cons (.var 0) (.cons (.dat (.int 12)) (.cons (.dat (.int 12)) .nil))) .nil)) (.cons (.ret (.call 56 [0, 1] (.cons (.var 0) (.cons (.lst (.cons (.var 1) (.cons (.var 1) (.cons (.call 57 [0, 1] (.cons (.un .neg (.bin .idx (.var 1) (.dat (.int 0)))) (.cons (.bin .idx (.var 1) (.dat (.int 1))) .nil)) .nil) (.cons (.tup (.cons (.dat (.int 0)) (.cons (.dat (.int 1)) .nil))) (.cons (.call 17 [0, 1, 2] (.cons (.var 0) (.cons (.dat (.int 3)) (.cons (.dat (.int 1)) .nil))) .nil) (.cons (.call 68 [0] (.cons (.var 0) .nil) .nil) .nil))))))) .nil)) .nil)) .nil))
def fe__law_tick : FE := fun f => match f with
  | 17 => F__law_fraction
  | 56 => F__law_pick
  | 57 => F__law_low
  | 68 => F__law_great
  | _ => fun _ _ _ => False
@[irreducible] def F__law_tick : List SV → KA → KX → Prop := runF fe__law_tick 1 2 b__law_tick
abbrev n__law_spot : List Str := ["_law_bowl_here", "_law_wide", "_law_own", "_law_menu", "_law_spot_here", "_law_turn"]
def b__law_spot : Sm := (.cons (.set 2 (.call 17 [0, 1, 2] (.cons (.var 0) (.cons (.dat (.int 12)) (.cons (.dat (.int 12)) .nil))) .nil)) (.cons (.set 3 (.lst (.cons (.var 2) (.cons (.var 2) (.cons (.call 57 [0, 1] (.cons (.un .neg (.bin .idx (.var 2) (.dat (.int 0)))) (.cons (.bin .idx (.var 2) (.dat (.int 1))) .nil)) .nil) (.cons (.tup (.cons (.dat (.int 0)) (.cons (.dat (.int 1)) .nil))) .nil)))))) (.cons (.frz 3) (.cons (.set 4 (.cmp [5] (.call 56 [0, 1] (.cons (.var 0) (.cons (.bin .add (.var 3) (.lst (.cons (.call 17 [0, 1, 2] (.cons (.var 0) (.cons (.dat (.int 12)) (.cons (.dat (.int 12)) .nil))) .nil) .nil))) .nil)) .nil) (.nm 5) (.rng1 (.var 1)) .no)) (.cons (.ifs (.bin .eq (.call 0 [0, 1] (.cons (.var 0) (.cons (.dat (.int 6)) .nil)) .nil) (.dat (.int 0))) (.cons (.put 4 (.call 0 [0, 1] (.cons (.var 0) (.cons (.var 1) .nil)) .nil) (.call 68 [0] (.cons (.var 0) .nil) .nil)) .nil) .nil) (.cons (.ret (.un .tuple (.var 4))) .nil))))))
def fe__law_spot : FE := fun f => match f with
  | 17 => F__law_fraction
  | 57 => F__law_low
  | 56 => F__law_pick
  | 0 => F__law_draw
  | 68 => F__law_great
  | _ => fun _ _ _ => False
@[irreducible] def F__law_spot : List SV → KA → KX → Prop := runF fe__law_spot 2 6 b__law_spot
abbrev n__law_by_run : List Str := ["_law_bowl_here", "_law_wide", "_law_words", "_law_found", "_law_lines", "_law_spot_here", "_law_tick_here", "_law_other", "_law_due", "_law_cut"]
def b__law_by_run : Sm := (.cons (.par [4, 5, 6, 7] (.cons (.call 62 [0, 1, 2] (.cons (.var 0) (.cons (.var 1) (.cons (.var 2) .nil))) .nil) (.cons (.call 70 [0, 1] (.cons (.var 0) (.cons (.var 1) .nil)) .nil) (.cons (.call 69 [0] (.cons (.var 0) .nil) .nil) (.cons (.call 69 [0] (.cons (.var 0) .nil) .nil) .nil))))) (.cons (.par [8, 9] (.cons (.call 63 [0, 1, 2] (.cons (.var 4) (.cons (.var 5) (.cons (.var 6) .nil))) .nil) (.cons (.call 0 [0, 1] (.cons (.var 0) (.cons (.bin .add (.un .len (.var 4)) (.dat (.int 1))) .nil)) .nil) .nil))) (.cons (.set 3 (.lst (.cons (.call 55 [0, 1, 2] (.cons (.var 4) (.cons (.var 5) (.cons (.var 6) .nil))) .nil) (.cons (.call 55 [2, 1, 0] .nil (.cons (.var 6) (.cons (.var 5) (.cons (.var 4) .nil)))) (.cons (.call 55 [0, 1, 2] (.cons (.slc (.var 4) .no (.var 9)) (.cons (.var 5) (.cons (.var 6) .nil))) .nil) .nil))))) (.cons (.frz 3) (.cons (.set 3 (.bin .add (.var 3) (.lst (.cons (.call 55 [0, 1, 2] (.cons (.var 4) (.cons (.var 5) (.cons (.var 7) .nil))) .nil) (.cons (.call 55 [0, 1, 2] (.cons (.tup .nil) (.cons (.var 5) (.cons (.var 6) .nil))) .nil) (.cons (.call 55 [0, 1, 2] (.cons (.var 4) (.cons (.var 5) (.cons (.var 6) .nil))) .nil) .nil)))))) (.cons (.ret (.bin .eq (.un .repr (.var 3)) (.un .repr (.lst (.cons (.var 8) (.cons (.var 8) (.cons (.slc (.var 8) .no (.bin .add (.var 1) (.var 9))) (.cons (.call 63 [0, 1, 2] (.cons (.var 4) (.cons (.var 5) (.cons (.var 7) .nil))) .nil) (.cons (.var 5) (.cons (.var 8) .nil)))))))))) .nil))))))
def fe__law_by_run : FE := fun f => match f with
  | 62 => F__law_program
  | 70 => F__law_spot
  | 69 => F__law_tick
  | 63 => F__law_walk
  | 0 => F__law_draw
  | 55 => F_run
  | _ => fun _ _ _ => False
@[irreducible] def F__law_by_run : List SV → KA → KX → Prop := runF fe__law_by_run 3 10 b__law_by_run
abbrev n__law_shapes : List Str := ["_law_wide", "_law_lines", "_law_shapes_here", "_law_line_here", "_law_pairs", "_law_by", "_law_at"]
def b__law_shapes : Sm := (.cons (.set 2 (.call 64 [0] (.cons (.var 0) .nil) .nil)) (.cons (.loop (.nm 3) (.var 1) (.cons (.ifs (.bin .eq (.bin .idx (.var 3) (.dat (.int 0))) (.dat (.str "sum"))) (.cons (.set 4 (.cmp [5, 6] (.tup (.cons (.var 5) (.cons (.bin .idx (.var 2) (.var 6)) .nil))) (.tp [5, 6]) (.bin .idx (.var 3) (.dat (.int 1))) .no)) (.cons (.frz 4) (.cons (.app 2 (.call 66 [0, 1] (.cons (.var 0) (.cons (.bin .add (.var 4) (.lst (.cons (.tup (.cons (.tup (.cons (.dat (.int 1)) (.cons (.dat (.int 1)) .nil))) (.cons (.call 65 [0, 1, 2] (.cons (.var 0) (.cons (.bin .idx (.var 3) (.dat (.int 2))) (.cons (.tup (.cons (.dat (.int 0)) (.cons (.dat (.int 1)) .nil))) .nil))) .nil) .nil))) .nil))) .nil)) .nil)) .nil))) (.cons (.set 4 (.lst (.cons (.tup (.cons (.tup (.cons (.dat (.int 1)) (.cons (.dat (.int 1)) .nil))) (.cons (.bin .idx (.var 2) (.bin .idx (.var 3) (.dat (.int 1)))) .nil))) (.cons (.tup (.cons (.tup (.cons (.dat (.int 1)) (.cons (.dat (.int 1)) .nil))) (.cons (.call 65 [0, 1, 2] (.cons (.var 0) (.cons (.tup (.cons (.dat (.int 0)) (.cons (.dat (.int 1)) .nil))) (.cons (.bin .idx (.var 3) (.dat (.int 2))) .nil))) .nil) .nil))) .nil)))) (.cons (.frz 4) (.cons (.app 2 (.call 66 [0, 1] (.cons (.var 0) (.cons (.var 4) .nil)) .nil)) .nil)))) .nil)) (.cons (.ret (.var 2)) .nil)))
def fe__law_shapes : FE := fun f => match f with
  | 64 => F__law_axes
  | 66 => F__law_blend
  | 65 => F__law_flat
  | _ => fun _ _ _ => False
@[irreducible] def F__law_shapes : List SV → KA → KX → Prop := runF fe__law_shapes 2 7 b__law_shapes
abbrev n__law_by_shapes : List Str := ["_law_bowl_here", "_law_wide", "_law_many", "_law_lines", "_law_due", "_law_found", "_law_last", "_law_spot_here", "_law_tick_here", "_law_shapes_here", "_law_turn", "_law_shape"]
def b__law_by_shapes : Sm := (.cons (.set 3 (.call 62 [0, 1, 2] (.cons (.var 0) (.cons (.var 1) (.cons (.cmp [10] (.call 56 [0, 1] (.cons (.var 0) (.cons (.lst (.cons (.dat (.str "sum")) (.cons (.dat (.str "sum")) (.cons (.dat (.str "shift")) .nil)))) .nil)) .nil) (.nm 10) (.rng1 (.var 2)) .no) .nil))) .nil)) (.cons (.par [7, 8, 9] (.cons (.call 70 [0, 1] (.cons (.var 0) (.cons (.var 1) .nil)) .nil) (.cons (.call 69 [0] (.cons (.var 0) .nil) .nil) (.cons (.call 72 [0, 1] (.cons (.var 1) (.cons (.var 3) .nil)) .nil) .nil)))) (.cons (.frz 9) (.cons (.set 4 (.un .tuple (.cmp [11] (.call 67 [0, 1, 2] (.cons (.var 11) (.cons (.var 7) (.cons (.var 8) .nil))) .nil) (.nm 11) (.var 9) .no))) (.cons (.set 5 (.lst (.cons (.un .tuple (.cmp [11] (.call 53 [0, 1, 2] (.cons (.var 11) (.cons (.var 7) (.cons (.var 8) .nil))) .nil) (.nm 11) (.var 9) .no)) (.cons (.call 55 [0, 1, 2] (.cons (.var 3) (.cons (.var 7) (.cons (.var 8) .nil))) .nil) .nil)))) (.cons (.frz 5) (.cons (.set 6 (.call 53 [2, 0, 1] .nil (.cons (.var 7) (.cons (.var 8) (.cons (.bin .idx (.var 9) (.un .neg (.dat (.int 1)))) .nil))))) (.cons (.ret (.bin .eq (.un .repr (.bin .add (.var 5) (.lst (.cons (.var 6) .nil)))) (.un .repr (.lst (.cons (.var 4) (.cons (.var 4) (.cons (.bin .idx (.var 4) (.un .neg (.dat (.int 1)))) .nil))))))) .nil))))))))
def fe__law_by_shapes : FE := fun f => match f with
  | 62 => F__law_program
  | 56 => F__law_pick
  | 70 => F__law_spot
  | 69 => F__law_tick
  | 72 => F__law_shapes
  | 67 => F__law_worth
  | 53 => F_form_at
  | 55 => F_run
  | _ => fun _ _ _ => False
@[irreducible] def F__law_by_shapes : List SV → KA → KX → Prop := runF fe__law_by_shapes 3 12 b__law_by_shapes
abbrev n__law_by_form : List Str := ["_law_bowl_here", "_law_wide", "_law_menu", "_law_factors", "_law_shape", "_law_due", "_law_found", "_law_spot_here", "_law_tick_here", "_law_other", "_law_turn"]
def b__law_by_form : Sm := (.cons (.set 2 (.lst (.cons (.tup (.cons (.dat (.int 0)) (.cons (.dat (.int 1)) .nil))) (.cons (.tup (.cons (.dat (.int 1)) (.cons (.dat (.int 1)) .nil))) (.cons (.tup (.cons (.un .neg (.dat (.int 1))) (.cons (.dat (.int 1)) .nil))) .nil))))) (.cons (.frz 2) (.cons (.set 3 (.un .tuple (.cmp [10] (.call 56 [0, 1] (.cons (.var 0) (.cons (.bin .add (.var 2) (.bin .mul (.lst (.cons (.call 17 [0, 1, 2] (.cons (.var 0) (.cons (.dat (.int 12)) (.cons (.dat (.int 12)) .nil))) .nil) .nil)) (.dat (.int 2)))) .nil)) .nil) (.nm 10) (.rng1 (.var 1)) .no))) (.cons (.set 4 (.tup (.cons (.var 3) (.cons (.call 17 [0, 1, 2] (.cons (.var 0) (.cons (.dat (.int 12)) (.cons (.dat (.int 12)) .nil))) .nil) (.cons (.call 56 [0, 1] (.cons (.var 0) (.cons (.bin .add (.var 2) (.bin .mul (.lst (.cons (.call 17 [0, 1, 2] (.cons (.var 0) (.cons (.dat (.int 12)) (.cons (.dat (.int 12)) .nil))) .nil) .nil)) (.dat (.int 2)))) .nil)) .nil) .nil))))) (.cons (.par [7, 8, 9] (.cons (.call 70 [0, 1] (.cons (.var 0) (.cons (.var 1) .nil)) .nil) (.cons (.call 69 [0] (.cons (.var 0) .nil) .nil) (.cons (.call 69 [0] (.cons (.var 0) .nil) .nil) .nil)))) (.cons (.set 5 (.lst (.cons (.call 67 [0, 1, 2] (.cons (.var 4) (.cons (.var 7) (.cons (.var 8) .nil))) .nil) (.cons (.call 67 [0, 1, 2] (.cons (.var 4) (.cons (.var 7) (.cons (.var 9) .nil))) .nil) .nil)))) (.cons (.frz 5) (.cons (.set 6 (.lst (.cons (.call 53 [0, 1, 2] (.cons (.var 4) (.cons (.var 7) (.cons (.var 8) .nil))) .nil) (.cons (.call 53 [0, 2, 1] .nil (.cons (.var 4) (.cons (.var 9) (.cons (.var 7) .nil)))) .nil)))) (.cons (.frz 6) (.cons (.ret (.band (.bin .eq (.un .repr (.var 6)) (.un .repr (.var 5))) (.bin .eq (.un .repr (.call 53 [0, 1, 2] (.cons (.var 4) (.cons (.var 7) (.cons (.var 8) .nil))) .nil)) (.un .repr (.bin .idx (.var 5) (.dat (.int 0))))))) .nil))))))))))
def fe__law_by_form : FE := fun f => match f with
  | 56 => F__law_pick
  | 17 => F__law_fraction
  | 70 => F__law_spot
  | 69 => F__law_tick
  | 67 => F__law_worth
  | 53 => F_form_at
  | _ => fun _ _ _ => False
@[irreducible] def F__law_by_form : List SV → KA → KX → Prop := runF fe__law_by_form 2 11 b__law_by_form
abbrev n_law : List Str := ["_law_script", "_law_bowl_here", "_law_menu", "_law_turn", "_law_words", "_law_lines", "_law_wide", "_law_many", "_law_at"]
def b_law : Sm := (.cons (.set 2 (.lst (.cons (.dat (.str "sum")) (.cons (.dat (.str "choice")) (.cons (.dat (.str "shift")) (.cons (.dat (.str "greatest")) (.cons (.dat (.str "least")) (.cons (.dat (.str "sum")) .nil)))))))) (.cons (.frz 2) (.cons (.loop (.nm 3) (.rng1 (.dat (.int 4))) (.cons (.set 6 (.call 56 [0, 1] (.cons (.var 1) (.cons (.lst (.cons (.dat (.int 1)) (.cons (.dat (.int 2)) (.cons (.dat (.int 2)) (.cons (.dat (.int 3)) .nil))))) .nil)) .nil)) (.cons (.set 4 (.cmp [8] (.call 56 [0, 1] (.cons (.var 1) (.cons (.var 2) .nil)) .nil) (.nm 8) (.rng1 (.call 0 [0, 1] (.cons (.var 1) (.cons (.dat (.int 5)) .nil)) .nil)) .no)) (.cons (.frz 4) (.cons (.set 7 (.call 56 [0, 1] (.cons (.var 1) (.cons (.lst (.cons (.var 6) (.cons (.bin .add (.dat (.int 1)) (.call 0 [0, 1] (.cons (.var 1) (.cons (.dat (.int 12)) .nil)) .nil)) .nil))) .nil)) .nil)) (.cons (.ifs (.bor (.bnot (.call 71 [0, 1, 2] (.cons (.var 1) (.cons (.var 6) (.cons (.var 4) .nil))) .nil)) (.bnot (.call 74 [0, 1] (.cons (.var 1) (.cons (.var 7) .nil)) .nil))) (.cons (.ret (.dat (.bool false))) .nil) .nil) (.cons (.ifs (.bnot (.call 73 [0, 1, 2] (.cons (.var 1) (.cons (.var 6) (.cons (.call 0 [0, 1] (.cons (.var 1) (.cons (.dat (.int 6)) .nil)) .nil) .nil))) .nil)) (.cons (.ret (.dat (.bool false))) .nil) .nil) .nil))))))) (.cons (.set 4 (.lst (.cons (.dat (.str "choice")) (.cons (.dat (.str "greatest")) (.cons (.dat (.str "sum")) (.cons (.dat (.str "shift")) (.cons (.dat (.str "sum")) (.cons (.dat (.str "least")) (.cons (.dat (.str "sum")) (.cons (.dat (.str "choice")) (.cons (.dat (.str "sum")) (.cons (.dat (.str "shift")) (.cons (.dat (.str "sum")) (.cons (.dat (.str "sum")) .nil)))))))))))))) (.cons (.frz 4) (.cons (.ifs (.bnot (.call 71 [0, 1, 2] (.cons (.var 1) (.cons (.dat (.int 12)) (.cons (.var 4) .nil))) .nil)) (.cons (.ret (.dat (.bool false))) .nil) .nil) (.cons (.set 5 (.tup (.cons (.tup (.cons (.dat (.str "sum")) (.cons (.tup (.cons (.tup (.cons (.tup (.cons (.dat (.int 1)) (.cons (.dat (.int 1)) .nil))) (.cons (.dat (.int 0)) .nil))) (.cons (.tup (.cons (.tup (.cons (.un .neg (.dat (.int 1))) (.cons (.dat (.int 1)) .nil))) (.cons (.dat (.int 1)) .nil))) .nil))) (.cons (.tup (.cons (.dat (.int 0)) (.cons (.dat (.int 1)) .nil))) .nil)))) (.cons (.tup (.cons (.dat (.str "greatest")) (.cons (.dat (.int 0)) (.cons (.dat (.int 1)) .nil)))) (.cons (.tup (.cons (.dat (.str "shift")) (.cons (.dat (.int 3)) (.cons (.tup (.cons (.un .neg (.dat (.int 1))) (.cons (.dat (.int 1)) .nil))) .nil)))) .nil))))) (.cons (.set 5 (.bin .add (.var 5) (.tup (.cons (.tup (.cons (.dat (.str "choice")) (.cons (.dat (.int 4)) (.cons (.dat (.str "<=")) (.cons (.dat (.int 1)) (.cons (.dat (.int 0)) (.cons (.dat (.int 4)) .nil))))))) .nil)))) (.cons (.ret (.bin .eq (.slc (.call 55 [0, 1, 2] (.cons (.var 5) (.cons (.tup (.cons (.tup (.cons (.dat (.int 3)) (.cons (.dat (.int 1)) .nil))) (.cons (.tup (.cons (.dat (.int 1)) (.cons (.dat (.int 2)) .nil))) .nil))) (.cons (.tup (.cons (.dat (.int 3)) (.cons (.dat (.int 1)) .nil))) .nil))) .nil) (.dat (.int 2)) .no) (.tup (.cons (.tup (.cons (.dat (.int 5)) (.cons (.dat (.int 2)) .nil))) (.cons (.tup (.cons (.dat (.int 3)) (.cons (.dat (.int 1)) .nil))) (.cons (.tup (.cons (.dat (.int 0)) (.cons (.dat (.int 1)) .nil))) (.cons (.tup (.cons (.dat (.int 3)) (.cons (.dat (.int 1)) .nil))) .nil))))))) .nil)))))))))
def fe_law : FE := fun f => match f with
  | 56 => F__law_pick
  | 0 => F__law_draw
  | 71 => F__law_by_run
  | 74 => F__law_by_form
  | 73 => F__law_by_shapes
  | 55 => F_run
  | _ => fun _ _ _ => False
def t3__law_walk : Sm := .nil
def t2__law_walk : Sm := .cons (.ret (.un .tuple (.var 3))) t3__law_walk
def t1__law_walk : Sm := .cons (.loop (.nm 4) (.var 0) (.cons (.ifs (.bin .eq (.bin .idx (.var 4) (.dat (.int 0))) (.dat (.str "sum"))) (.cons (.app 3 (.call 58 [0] (.cons (.bin .add (.cmp [6, 7] (.tup (.cons (.var 6) (.cons (.bin .idx (.var 3) (.var 7)) .nil))) (.tp [6, 7]) (.bin .idx (.var 4) (.dat (.int 1))) .no) (.lst (.cons (.tup (.cons (.bin .idx (.var 4) (.dat (.int 2))) (.cons (.tup (.cons (.dat (.int 1)) (.cons (.dat (.int 1)) .nil))) .nil))) .nil))) .nil) .nil)) .nil) (.cons (.ifs (.bin .eq (.bin .idx (.var 4) (.dat (.int 0))) (.dat (.str "shift"))) (.cons (.app 3 (.call 58 [0] (.cons (.lst (.cons (.tup (.cons (.bin .idx (.var 3) (.bin .idx (.var 4) (.dat (.int 1)))) (.cons (.tup (.cons (.dat (.int 1)) (.cons (.dat (.int 1)) .nil))) .nil))) (.cons (.tup (.cons (.bin .idx (.var 4) (.dat (.int 2))) (.cons (.var 2) .nil))) .nil))) .nil) .nil)) .nil) (.cons (.ifs (.bin .eq (.bin .idx (.var 4) (.dat (.int 0))) (.dat (.str "choice"))) (.cons (.set 5 (.call 59 [0, 1, 2] (.cons (.bin .idx (.var 3) (.bin .idx (.var 4) (.dat (.int 1)))) (.cons (.bin .idx (.var 4) (.dat (.int 2))) (.cons (.bin .idx (.var 3) (.bin .idx (.var 4) (.dat (.int 3)))) .nil))) .nil)) (.cons (.app 3 (.ife (.var 5) (.bin .idx (.var 3) (.bin .idx (.var 4) (.dat (.int 4)))) (.bin .idx (.var 3) (.bin .idx (.var 4) (.dat (.int 5)))))) .nil)) (.cons (.set 5 (.call 59 [0, 1, 2] (.cons (.bin .idx (.var 3) (.bin .idx (.var 4) (.dat (.int 1)))) (.cons (.dat (.str "<")) (.cons (.bin .idx (.var 3) (.bin .idx (.var 4) (.dat (.int 2)))) .nil))) .nil)) (.cons (.app 3 (.ife (.bin .eq (.var 5) (.bin .eq (.bin .idx (.var 4) (.dat (.int 0))) (.dat (.str "greatest")))) (.bin .idx (.var 3) (.bin .idx (.var 4) (.dat (.int 2)))) (.bin .idx (.var 3) (.bin .idx (.var 4) (.dat (.int 1)))))) .nil))) .nil)) .nil)) .nil)) t2__law_walk
def t0__law_walk : Sm := .cons (.set 3 (.un .list (.var 1))) t1__law_walk
theorem bt__law_walk : b__law_walk = t0__law_walk := rfl
def t1__law_worth : Sm := .nil
def t0__law_worth : Sm := .cons (.ret (.call 58 [0] (.cons (.bin .add (.zl (.cons (.bin .idx (.var 0) (.dat (.int 0))) (.cons (.var 1) .nil))) (.lst (.cons (.tup (.cons (.bin .idx (.var 0) (.dat (.int 1))) (.cons (.tup (.cons (.dat (.int 1)) (.cons (.dat (.int 1)) .nil))) .nil))) (.cons (.tup (.cons (.bin .idx (.var 0) (.dat (.int 2))) (.cons (.var 2) .nil))) .nil)))) .nil) .nil)) t1__law_worth
theorem bt__law_worth : b__law_worth = t0__law_worth := rfl
def t1__law_great : Sm := .nil
def t0__law_great : Sm := .cons (.ret (.call 56 [0, 1] (.cons (.var 0) (.cons (.lst (.cons (.tup (.cons (.bin .sub (.bin .pow (.dat (.int 10)) (.dat (.int 40))) (.dat (.int 1))) (.cons (.bin .sub (.bin .pow (.dat (.int 10)) (.dat (.int 40))) (.dat (.int 2))) .nil))) (.cons (.tup (.cons (.bin .sub (.dat (.int 1)) (.bin .pow (.dat (.int 10)) (.dat (.int 40)))) (.cons (.dat (.int 1)) .nil))) (.cons (.tup (.cons (.dat (.int 1)) (.cons (.bin .sub (.bin .pow (.dat (.int 10)) (.dat (.int 40))) (.dat (.int 1))) .nil))) (.cons (.tup (.cons (.un .neg (.dat (.int 7))) (.cons (.bin .add (.bin .pow (.dat (.int 10)) (.dat (.int 39))) (.dat (.int 3))) .nil))) .nil))))) .nil)) .nil)) t1__law_great
theorem bt__law_great : b__law_great = t0__law_great := rfl
def t2__law_tick : Sm := .nil
def t1__law_tick : Sm := .cons (.ret (.call 56 [0, 1] (.cons (.var 0) (.cons (.lst (.cons (.var 1) (.cons (.var 1) (.cons (.call 57 [0, 1] (.cons (.un .neg (.bin .idx (.var 1) (.dat (.int 0)))) (.cons (.bin .idx (.var 1) (.dat (.int 1))) .nil)) .nil) (.cons (.tup (.cons (.dat (.int 0)) (.cons (.dat (.int 1)) .nil))) (.cons (.call 17 [0, 1, 2] (.cons (.var 0) (.cons (.dat (.int 3)) (.cons (.dat (.int 1)) .nil))) .nil) (.cons (.call 68 [0] (.cons (.var 0) .nil) .nil) .nil))))))) .nil)) .nil)) t2__law_tick
def t0__law_tick : Sm := .cons (.set 1 (.call 17 [0, 1, 2] (.cons (.var 0) (.cons (.dat (.int 12)) (.cons (.dat (.int 12)) .nil))) .nil)) t1__law_tick
theorem bt__law_tick : b__law_tick = t0__law_tick := rfl
def t6__law_spot : Sm := .nil
def t5__law_spot : Sm := .cons (.ret (.un .tuple (.var 4))) t6__law_spot
def t4__law_spot : Sm := .cons (.ifs (.bin .eq (.call 0 [0, 1] (.cons (.var 0) (.cons (.dat (.int 6)) .nil)) .nil) (.dat (.int 0))) (.cons (.put 4 (.call 0 [0, 1] (.cons (.var 0) (.cons (.var 1) .nil)) .nil) (.call 68 [0] (.cons (.var 0) .nil) .nil)) .nil) .nil) t5__law_spot
def t3__law_spot : Sm := .cons (.set 4 (.cmp [5] (.call 56 [0, 1] (.cons (.var 0) (.cons (.bin .add (.var 3) (.lst (.cons (.call 17 [0, 1, 2] (.cons (.var 0) (.cons (.dat (.int 12)) (.cons (.dat (.int 12)) .nil))) .nil) .nil))) .nil)) .nil) (.nm 5) (.rng1 (.var 1)) .no)) t4__law_spot
def t2__law_spot : Sm := .cons (.frz 3) t3__law_spot
def t1__law_spot : Sm := .cons (.set 3 (.lst (.cons (.var 2) (.cons (.var 2) (.cons (.call 57 [0, 1] (.cons (.un .neg (.bin .idx (.var 2) (.dat (.int 0)))) (.cons (.bin .idx (.var 2) (.dat (.int 1))) .nil)) .nil) (.cons (.tup (.cons (.dat (.int 0)) (.cons (.dat (.int 1)) .nil))) .nil)))))) t2__law_spot
def t0__law_spot : Sm := .cons (.set 2 (.call 17 [0, 1, 2] (.cons (.var 0) (.cons (.dat (.int 12)) (.cons (.dat (.int 12)) .nil))) .nil)) t1__law_spot
theorem bt__law_spot : b__law_spot = t0__law_spot := rfl
def t6__law_by_run : Sm := .nil
def t5__law_by_run : Sm := .cons (.ret (.bin .eq (.un .repr (.var 3)) (.un .repr (.lst (.cons (.var 8) (.cons (.var 8) (.cons (.slc (.var 8) .no (.bin .add (.var 1) (.var 9))) (.cons (.call 63 [0, 1, 2] (.cons (.var 4) (.cons (.var 5) (.cons (.var 7) .nil))) .nil) (.cons (.var 5) (.cons (.var 8) .nil)))))))))) t6__law_by_run
def t4__law_by_run : Sm := .cons (.set 3 (.bin .add (.var 3) (.lst (.cons (.call 55 [0, 1, 2] (.cons (.var 4) (.cons (.var 5) (.cons (.var 7) .nil))) .nil) (.cons (.call 55 [0, 1, 2] (.cons (.tup .nil) (.cons (.var 5) (.cons (.var 6) .nil))) .nil) (.cons (.call 55 [0, 1, 2] (.cons (.var 4) (.cons (.var 5) (.cons (.var 6) .nil))) .nil) .nil)))))) t5__law_by_run
def t3__law_by_run : Sm := .cons (.frz 3) t4__law_by_run
def t2__law_by_run : Sm := .cons (.set 3 (.lst (.cons (.call 55 [0, 1, 2] (.cons (.var 4) (.cons (.var 5) (.cons (.var 6) .nil))) .nil) (.cons (.call 55 [2, 1, 0] .nil (.cons (.var 6) (.cons (.var 5) (.cons (.var 4) .nil)))) (.cons (.call 55 [0, 1, 2] (.cons (.slc (.var 4) .no (.var 9)) (.cons (.var 5) (.cons (.var 6) .nil))) .nil) .nil))))) t3__law_by_run
def t1__law_by_run : Sm := .cons (.par [8, 9] (.cons (.call 63 [0, 1, 2] (.cons (.var 4) (.cons (.var 5) (.cons (.var 6) .nil))) .nil) (.cons (.call 0 [0, 1] (.cons (.var 0) (.cons (.bin .add (.un .len (.var 4)) (.dat (.int 1))) .nil)) .nil) .nil))) t2__law_by_run
def t0__law_by_run : Sm := .cons (.par [4, 5, 6, 7] (.cons (.call 62 [0, 1, 2] (.cons (.var 0) (.cons (.var 1) (.cons (.var 2) .nil))) .nil) (.cons (.call 70 [0, 1] (.cons (.var 0) (.cons (.var 1) .nil)) .nil) (.cons (.call 69 [0] (.cons (.var 0) .nil) .nil) (.cons (.call 69 [0] (.cons (.var 0) .nil) .nil) .nil))))) t1__law_by_run
theorem bt__law_by_run : b__law_by_run = t0__law_by_run := rfl
def t3__law_shapes : Sm := .nil
def t2__law_shapes : Sm := .cons (.ret (.var 2)) t3__law_shapes
def t1__law_shapes : Sm := .cons (.loop (.nm 3) (.var 1) (.cons (.ifs (.bin .eq (.bin .idx (.var 3) (.dat (.int 0))) (.dat (.str "sum"))) (.cons (.set 4 (.cmp [5, 6] (.tup (.cons (.var 5) (.cons (.bin .idx (.var 2) (.var 6)) .nil))) (.tp [5, 6]) (.bin .idx (.var 3) (.dat (.int 1))) .no)) (.cons (.frz 4) (.cons (.app 2 (.call 66 [0, 1] (.cons (.var 0) (.cons (.bin .add (.var 4) (.lst (.cons (.tup (.cons (.tup (.cons (.dat (.int 1)) (.cons (.dat (.int 1)) .nil))) (.cons (.call 65 [0, 1, 2] (.cons (.var 0) (.cons (.bin .idx (.var 3) (.dat (.int 2))) (.cons (.tup (.cons (.dat (.int 0)) (.cons (.dat (.int 1)) .nil))) .nil))) .nil) .nil))) .nil))) .nil)) .nil)) .nil))) (.cons (.set 4 (.lst (.cons (.tup (.cons (.tup (.cons (.dat (.int 1)) (.cons (.dat (.int 1)) .nil))) (.cons (.bin .idx (.var 2) (.bin .idx (.var 3) (.dat (.int 1)))) .nil))) (.cons (.tup (.cons (.tup (.cons (.dat (.int 1)) (.cons (.dat (.int 1)) .nil))) (.cons (.call 65 [0, 1, 2] (.cons (.var 0) (.cons (.tup (.cons (.dat (.int 0)) (.cons (.dat (.int 1)) .nil))) (.cons (.bin .idx (.var 3) (.dat (.int 2))) .nil))) .nil) .nil))) .nil)))) (.cons (.frz 4) (.cons (.app 2 (.call 66 [0, 1] (.cons (.var 0) (.cons (.var 4) .nil)) .nil)) .nil)))) .nil)) t2__law_shapes
def t0__law_shapes : Sm := .cons (.set 2 (.call 64 [0] (.cons (.var 0) .nil) .nil)) t1__law_shapes
theorem bt__law_shapes : b__law_shapes = t0__law_shapes := rfl
def t8__law_by_shapes : Sm := .nil
def t7__law_by_shapes : Sm := .cons (.ret (.bin .eq (.un .repr (.bin .add (.var 5) (.lst (.cons (.var 6) .nil)))) (.un .repr (.lst (.cons (.var 4) (.cons (.var 4) (.cons (.bin .idx (.var 4) (.un .neg (.dat (.int 1)))) .nil))))))) t8__law_by_shapes
def t6__law_by_shapes : Sm := .cons (.set 6 (.call 53 [2, 0, 1] .nil (.cons (.var 7) (.cons (.var 8) (.cons (.bin .idx (.var 9) (.un .neg (.dat (.int 1)))) .nil))))) t7__law_by_shapes
def t5__law_by_shapes : Sm := .cons (.frz 5) t6__law_by_shapes
def t4__law_by_shapes : Sm := .cons (.set 5 (.lst (.cons (.un .tuple (.cmp [11] (.call 53 [0, 1, 2] (.cons (.var 11) (.cons (.var 7) (.cons (.var 8) .nil))) .nil) (.nm 11) (.var 9) .no)) (.cons (.call 55 [0, 1, 2] (.cons (.var 3) (.cons (.var 7) (.cons (.var 8) .nil))) .nil) .nil)))) t5__law_by_shapes
def t3__law_by_shapes : Sm := .cons (.set 4 (.un .tuple (.cmp [11] (.call 67 [0, 1, 2] (.cons (.var 11) (.cons (.var 7) (.cons (.var 8) .nil))) .nil) (.nm 11) (.var 9) .no))) t4__law_by_shapes
def t2__law_by_shapes : Sm := .cons (.frz 9) t3__law_by_shapes
def t1__law_by_shapes : Sm := .cons (.par [7, 8, 9] (.cons (.call 70 [0, 1] (.cons (.var 0) (.cons (.var 1) .nil)) .nil) (.cons (.call 69 [0] (.cons (.var 0) .nil) .nil) (.cons (.call 72 [0, 1] (.cons (.var 1) (.cons (.var 3) .nil)) .nil) .nil)))) t2__law_by_shapes
def t0__law_by_shapes : Sm := .cons (.set 3 (.call 62 [0, 1, 2] (.cons (.var 0) (.cons (.var 1) (.cons (.cmp [10] (.call 56 [0, 1] (.cons (.var 0) (.cons (.lst (.cons (.dat (.str "sum")) (.cons (.dat (.str "sum")) (.cons (.dat (.str "shift")) .nil)))) .nil)) .nil) (.nm 10) (.rng1 (.var 2)) .no) .nil))) .nil)) t1__law_by_shapes
theorem bt__law_by_shapes : b__law_by_shapes = t0__law_by_shapes := rfl
def t10__law_by_form : Sm := .nil
def t9__law_by_form : Sm := .cons (.ret (.band (.bin .eq (.un .repr (.var 6)) (.un .repr (.var 5))) (.bin .eq (.un .repr (.call 53 [0, 1, 2] (.cons (.var 4) (.cons (.var 7) (.cons (.var 8) .nil))) .nil)) (.un .repr (.bin .idx (.var 5) (.dat (.int 0))))))) t10__law_by_form
def t8__law_by_form : Sm := .cons (.frz 6) t9__law_by_form
def t7__law_by_form : Sm := .cons (.set 6 (.lst (.cons (.call 53 [0, 1, 2] (.cons (.var 4) (.cons (.var 7) (.cons (.var 8) .nil))) .nil) (.cons (.call 53 [0, 2, 1] .nil (.cons (.var 4) (.cons (.var 9) (.cons (.var 7) .nil)))) .nil)))) t8__law_by_form
def t6__law_by_form : Sm := .cons (.frz 5) t7__law_by_form
def t5__law_by_form : Sm := .cons (.set 5 (.lst (.cons (.call 67 [0, 1, 2] (.cons (.var 4) (.cons (.var 7) (.cons (.var 8) .nil))) .nil) (.cons (.call 67 [0, 1, 2] (.cons (.var 4) (.cons (.var 7) (.cons (.var 9) .nil))) .nil) .nil)))) t6__law_by_form
def t4__law_by_form : Sm := .cons (.par [7, 8, 9] (.cons (.call 70 [0, 1] (.cons (.var 0) (.cons (.var 1) .nil)) .nil) (.cons (.call 69 [0] (.cons (.var 0) .nil) .nil) (.cons (.call 69 [0] (.cons (.var 0) .nil) .nil) .nil)))) t5__law_by_form
def t3__law_by_form : Sm := .cons (.set 4 (.tup (.cons (.var 3) (.cons (.call 17 [0, 1, 2] (.cons (.var 0) (.cons (.dat (.int 12)) (.cons (.dat (.int 12)) .nil))) .nil) (.cons (.call 56 [0, 1] (.cons (.var 0) (.cons (.bin .add (.var 2) (.bin .mul (.lst (.cons (.call 17 [0, 1, 2] (.cons (.var 0) (.cons (.dat (.int 12)) (.cons (.dat (.int 12)) .nil))) .nil) .nil)) (.dat (.int 2)))) .nil)) .nil) .nil))))) t4__law_by_form
def t2__law_by_form : Sm := .cons (.set 3 (.un .tuple (.cmp [10] (.call 56 [0, 1] (.cons (.var 0) (.cons (.bin .add (.var 2) (.bin .mul (.lst (.cons (.call 17 [0, 1, 2] (.cons (.var 0) (.cons (.dat (.int 12)) (.cons (.dat (.int 12)) .nil))) .nil) .nil)) (.dat (.int 2)))) .nil)) .nil) (.nm 10) (.rng1 (.var 1)) .no))) t3__law_by_form
def t1__law_by_form : Sm := .cons (.frz 2) t2__law_by_form
def t0__law_by_form : Sm := .cons (.set 2 (.lst (.cons (.tup (.cons (.dat (.int 0)) (.cons (.dat (.int 1)) .nil))) (.cons (.tup (.cons (.dat (.int 1)) (.cons (.dat (.int 1)) .nil))) (.cons (.tup (.cons (.un .neg (.dat (.int 1))) (.cons (.dat (.int 1)) .nil))) .nil))))) t1__law_by_form
theorem bt__law_by_form : b__law_by_form = t0__law_by_form := rfl
def t6_law_2 : Sm := .nil
def t5_law_2 : Sm := .cons (.ifs (.bnot (.call 73 [0, 1, 2] (.cons (.var 1) (.cons (.var 6) (.cons (.call 0 [0, 1] (.cons (.var 1) (.cons (.dat (.int 6)) .nil)) .nil) .nil))) .nil)) (.cons (.ret (.dat (.bool false))) .nil) .nil) t6_law_2
def t4_law_2 : Sm := .cons (.ifs (.bor (.bnot (.call 71 [0, 1, 2] (.cons (.var 1) (.cons (.var 6) (.cons (.var 4) .nil))) .nil)) (.bnot (.call 74 [0, 1] (.cons (.var 1) (.cons (.var 7) .nil)) .nil))) (.cons (.ret (.dat (.bool false))) .nil) .nil) t5_law_2
def t3_law_2 : Sm := .cons (.set 7 (.call 56 [0, 1] (.cons (.var 1) (.cons (.lst (.cons (.var 6) (.cons (.bin .add (.dat (.int 1)) (.call 0 [0, 1] (.cons (.var 1) (.cons (.dat (.int 12)) .nil)) .nil)) .nil))) .nil)) .nil)) t4_law_2
def t2_law_2 : Sm := .cons (.frz 4) t3_law_2
def t1_law_2 : Sm := .cons (.set 4 (.cmp [8] (.call 56 [0, 1] (.cons (.var 1) (.cons (.var 2) .nil)) .nil) (.nm 8) (.rng1 (.call 0 [0, 1] (.cons (.var 1) (.cons (.dat (.int 5)) .nil)) .nil)) .no)) t2_law_2
def t0_law_2 : Sm := .cons (.set 6 (.call 56 [0, 1] (.cons (.var 1) (.cons (.lst (.cons (.dat (.int 1)) (.cons (.dat (.int 2)) (.cons (.dat (.int 2)) (.cons (.dat (.int 3)) .nil))))) .nil)) .nil)) t1_law_2
def t9_law : Sm := .nil
def t8_law : Sm := .cons (.ret (.bin .eq (.slc (.call 55 [0, 1, 2] (.cons (.var 5) (.cons (.tup (.cons (.tup (.cons (.dat (.int 3)) (.cons (.dat (.int 1)) .nil))) (.cons (.tup (.cons (.dat (.int 1)) (.cons (.dat (.int 2)) .nil))) .nil))) (.cons (.tup (.cons (.dat (.int 3)) (.cons (.dat (.int 1)) .nil))) .nil))) .nil) (.dat (.int 2)) .no) (.tup (.cons (.tup (.cons (.dat (.int 5)) (.cons (.dat (.int 2)) .nil))) (.cons (.tup (.cons (.dat (.int 3)) (.cons (.dat (.int 1)) .nil))) (.cons (.tup (.cons (.dat (.int 0)) (.cons (.dat (.int 1)) .nil))) (.cons (.tup (.cons (.dat (.int 3)) (.cons (.dat (.int 1)) .nil))) .nil))))))) t9_law
def t7_law : Sm := .cons (.set 5 (.bin .add (.var 5) (.tup (.cons (.tup (.cons (.dat (.str "choice")) (.cons (.dat (.int 4)) (.cons (.dat (.str "<=")) (.cons (.dat (.int 1)) (.cons (.dat (.int 0)) (.cons (.dat (.int 4)) .nil))))))) .nil)))) t8_law
def t6_law : Sm := .cons (.set 5 (.tup (.cons (.tup (.cons (.dat (.str "sum")) (.cons (.tup (.cons (.tup (.cons (.tup (.cons (.dat (.int 1)) (.cons (.dat (.int 1)) .nil))) (.cons (.dat (.int 0)) .nil))) (.cons (.tup (.cons (.tup (.cons (.un .neg (.dat (.int 1))) (.cons (.dat (.int 1)) .nil))) (.cons (.dat (.int 1)) .nil))) .nil))) (.cons (.tup (.cons (.dat (.int 0)) (.cons (.dat (.int 1)) .nil))) .nil)))) (.cons (.tup (.cons (.dat (.str "greatest")) (.cons (.dat (.int 0)) (.cons (.dat (.int 1)) .nil)))) (.cons (.tup (.cons (.dat (.str "shift")) (.cons (.dat (.int 3)) (.cons (.tup (.cons (.un .neg (.dat (.int 1))) (.cons (.dat (.int 1)) .nil))) .nil)))) .nil))))) t7_law
def t5_law : Sm := .cons (.ifs (.bnot (.call 71 [0, 1, 2] (.cons (.var 1) (.cons (.dat (.int 12)) (.cons (.var 4) .nil))) .nil)) (.cons (.ret (.dat (.bool false))) .nil) .nil) t6_law
def t4_law : Sm := .cons (.frz 4) t5_law
def t3_law : Sm := .cons (.set 4 (.lst (.cons (.dat (.str "choice")) (.cons (.dat (.str "greatest")) (.cons (.dat (.str "sum")) (.cons (.dat (.str "shift")) (.cons (.dat (.str "sum")) (.cons (.dat (.str "least")) (.cons (.dat (.str "sum")) (.cons (.dat (.str "choice")) (.cons (.dat (.str "sum")) (.cons (.dat (.str "shift")) (.cons (.dat (.str "sum")) (.cons (.dat (.str "sum")) .nil)))))))))))))) t4_law
def t2_law : Sm := .cons (.loop (.nm 3) (.rng1 (.dat (.int 4))) t0_law_2) t3_law
def t1_law : Sm := .cons (.frz 2) t2_law
def t0_law : Sm := .cons (.set 2 (.lst (.cons (.dat (.str "sum")) (.cons (.dat (.str "choice")) (.cons (.dat (.str "shift")) (.cons (.dat (.str "greatest")) (.cons (.dat (.str "least")) (.cons (.dat (.str "sum")) .nil)))))))) t1_law
theorem bt_law : b_law = t0_law := rfl
end Lk46
end
section
/-! k46: the law's own going through the lines; what is drawn. -/
namespace Lk46
open PySem Un Pg Fd
section
variable {k : KA} {x : KX}
theorem cat_nn {xs ys : List PyData} (h : xs.length + ys.length ≤ 1000) (hk : k (.new (xs ++ ys))) : w2 .add (.new xs) (.new ys) k := ⟨_, _, rfl, rfl, sz _ h, hk⟩
@[simp] theorem eq_bb {a b : Bool} : w2 .eq (.d (.bool a)) (.d (.bool b)) k ↔ k (.d (.bool (a == b))) := by
  have sh : ∀ c : Bool, shp (.bool c) := fun c => by simp [shp, SeqAt.shaped, PyData.canLay0, PyData.depth]
  have e : PyData.eqv (.bool a) (.bool b) = (a == b) := by cases a <;> cases b <;> rfl
  constructor
  · rintro ⟨_, _, h1, h2, h⟩
    cases h1
    cases h2
    obtain ⟨_, _, h⟩ := h
    rwa [e] at h
  · intro h
    exact ⟨_, _, rfl, rfl, sh _, sh _, by rw [e]; exact h⟩
theorem bd1 : Bd 700 (1 : Rat) := by
  constructor <;> decide +kernel
theorem emb1 : Fr 1 = .tuple [.int 1, .int 1] := rfl
/-- one line of the law's going -/
theorem walk_step {cs vs : List Rat} {t : Rat} {n : Nat} {L : Ln} {d0 : PyData} {u v w : SV} {kf : KF} (hv : ∀ q ∈ cs, V n q) (ht : V n t) (hn : n ≤ 14) (hl : cs.length ≤ 200) (hL : L.ok cs.length)
    (hk : ∀ u' v' w', kf (.nx [.d d0, .d (PT vs), .d (Fr t), .own (PL (cs ++ [stepR cs t L])), .d L.dat, u', v', w'])) :
    ex fe__law_walk x (.cons (.ifs (.bin .eq (.bin .idx (.var 4) (.dat (.int 0))) (.dat (.str "sum"))) (.cons (.app 3 (.call 58 [0] (.cons (.bin .add (.cmp [6, 7] (.tup (.cons (.var 6) (.cons (.bin .idx (.var 3) (.var 7)) .nil))) (.tp [6, 7]) (.bin .idx (.var 4) (.dat (.int 1))) .no) (.lst (.cons (.tup (.cons (.bin .idx (.var 4) (.dat (.int 2))) (.cons (.tup (.cons (.dat (.int 1)) (.cons (.dat (.int 1)) .nil))) .nil))) .nil))) .nil) .nil)) .nil) (.cons (.ifs (.bin .eq (.bin .idx (.var 4) (.dat (.int 0))) (.dat (.str "shift"))) (.cons (.app 3 (.call 58 [0] (.cons (.lst (.cons (.tup (.cons (.bin .idx (.var 3) (.bin .idx (.var 4) (.dat (.int 1)))) (.cons (.tup (.cons (.dat (.int 1)) (.cons (.dat (.int 1)) .nil))) .nil))) (.cons (.tup (.cons (.bin .idx (.var 4) (.dat (.int 2))) (.cons (.var 2) .nil))) .nil))) .nil) .nil)) .nil) (.cons (.ifs (.bin .eq (.bin .idx (.var 4) (.dat (.int 0))) (.dat (.str "choice"))) (.cons (.set 5 (.call 59 [0, 1, 2] (.cons (.bin .idx (.var 3) (.bin .idx (.var 4) (.dat (.int 1)))) (.cons (.bin .idx (.var 4) (.dat (.int 2))) (.cons (.bin .idx (.var 3) (.bin .idx (.var 4) (.dat (.int 3)))) .nil))) .nil)) (.cons (.app 3 (.ife (.var 5) (.bin .idx (.var 3) (.bin .idx (.var 4) (.dat (.int 4)))) (.bin .idx (.var 3) (.bin .idx (.var 4) (.dat (.int 5)))))) .nil)) (.cons (.set 5 (.call 59 [0, 1, 2] (.cons (.bin .idx (.var 3) (.bin .idx (.var 4) (.dat (.int 1)))) (.cons (.dat (.str "<")) (.cons (.bin .idx (.var 3) (.bin .idx (.var 4) (.dat (.int 2)))) .nil))) .nil)) (.cons (.app 3 (.ife (.bin .eq (.var 5) (.bin .eq (.bin .idx (.var 4) (.dat (.int 0))) (.dat (.str "greatest")))) (.bin .idx (.var 3) (.bin .idx (.var 4) (.dat (.int 2)))) (.bin .idx (.var 3) (.bin .idx (.var 4) (.dat (.int 1)))))) .nil))) .nil)) .nil)) .nil)
      [.d d0, .d (PT vs), .d (Fr t), .own (PL cs), .d L.dat, u, v, w] kf := by
  have bv : ∀ {i : Nat}, i < cs.length → Bd 700 (vg cs i) := fun h => (hv _ (vg_mem h)).bd (by omega)
  have bt := ht.bd (by omega)
  have hsz : (PL cs).length < sizeLine := by
    rw [PL_len]
    exact Nat.lt_of_lt_of_le (show cs.length < 1000 by omega) (sz 1000 (by decide))
  cases L with
  | sum ms c =>
    obtain ⟨h1, h2, h3⟩ := hL
    simp [Ln.dat, idx2, isNo, wipeS]
    refine cmp_map (ys := PR (ms.map fun m => (m.1, vg cs m.2))) (by simp [MS, PR]) (fun i a b ha hb => ?_) (by simpa [MS] using sz _ (by omega)) ?_
    · obtain ⟨⟨q, r⟩, hp, rfl⟩ := MS_get ha
      obtain ⟨g1, g2⟩ := h2 _ (List.mem_of_getElem? hp)
      refine ⟨_, rfl, fun ka hka => ?_⟩
      simp [szl]
      refine vg_b g2 ?_
      simp [szl]
      simp [PR, hp] at hb
      rw [← hb] at hka
      exact hka
    · rw [List.nil_append]
      simp [szl, idx2]
      refine cat_nn (by simp [PR]; omega) ?_
      simp [fe__law_walk]
      have e : PR (ms.map fun m => (m.1, vg cs m.2)) ++ [.tuple [Fr c, .tuple [.int 1, .int 1]]] = PR (ms.map (fun m => (m.1, vg cs m.2)) ++ [(c, 1)]) := by simp [PR, emb1]
      rw [e]
      refine total_ok (m := 700) (fun p hp => ?_) ?_ ?_
      · rcases List.mem_append.mp hp with hp | hp
        · obtain ⟨m, hm, rfl⟩ := List.mem_map.mp hp
          exact ⟨((h2 m hm).1.bd (b := 2) (by decide) (by decide)).mono (by decide), bv (h2 m hm).2⟩
        · rw [List.mem_singleton.mp hp]
          exact ⟨(h3.bd (b := 3) (by decide) (by decide)).mono (by decide), bd1⟩
      · simp
        have := Nat.mul_le_mul_right 1401 (show ms.length + 1 + 1 ≤ 5 by omega)
        omega
      · rw [← acc_dot]
        simp [hsz]
        rw [PL_snoc1]
        exact hk _ _ _
  | shift i c =>
    simp [Ln.dat, idx2]
    refine vg_b hL.1 ?_
    simp [szl, idx2, fe__law_walk]
    have e : [PyData.tuple [Fr (vg cs i), .tuple [.int 1, .int 1]], .tuple [Fr c, Fr t]] = PR [(vg cs i, 1), (c, t)] := rfl
    rw [e]
    refine total_ok (m := 700) (fun p hp => ?_) (by show 3 * 1401 < 8990; decide) ?_
    · simp at hp
      rcases hp with rfl | rfl
      · exact ⟨bv hL.1, bd1⟩
      · exact ⟨(hL.2.bd (b := 2) (by decide) (by decide)).mono (by decide), bt⟩
    · have e2 : dotR [(vg cs i, 1), (c, t)] = stepR cs t (.shift i c) := by
        simp [dotR, stepR]
        grind
      rw [e2]
      simp [hsz]
      rw [PL_snoc1]
      exact hk _ _ _
  | choice w i j a b =>
    simp [Ln.dat, idx2, idx3, idx4, idx5]
    refine vg_b hL.1 ?_
    simp [idx2, idx3]
    refine vg_b hL.2.1 ?_
    simp [fe__law_walk]
    refine is_true_ok (bv hL.1) (bv hL.2.1) (by decide) ?_
    have hk : ∀ u' v' w', kf (.nx [.d d0, .d (PT vs), .d (Fr t), .own (PL (cs ++ [if w.so (vg cs i) (vg cs j) = true then vg cs a else vg cs b])), .d (Ln.choice w i j a b).dat, u', v', w']) := hk
    cases hw : w.so (vg cs i) (vg cs j) with
    | true =>
      rw [hw, if_pos rfl] at hk
      simp [idx4]
      refine vg_b hL.2.2.1 ?_
      simp [hsz]
      rw [PL_snoc1]
      exact hk _ _ _
    | false =>
      rw [hw, if_neg (by decide)] at hk
      simp [idx5]
      refine vg_b hL.2.2.2 ?_
      simp [hsz]
      rw [PL_snoc1]
      exact hk _ _ _
  | grt i j =>
    simp [Ln.dat, idx2]
    refine vg_b hL.1 ?_
    simp [idx2]
    refine vg_b hL.2 ?_
    simp [fe__law_walk]
    refine is_true_ok (w := .lt) (bv hL.1) (bv hL.2) (by decide) ?_
    have hk : ∀ u' v' w', kf (.nx [.d d0, .d (PT vs), .d (Fr t), .own (PL (cs ++ [if vg cs j ≤ vg cs i then vg cs i else vg cs j])), .d (Ln.grt i j).dat, u', v', w']) := hk
    by_cases h : vg cs j ≤ vg cs i
    · rw [if_pos h] at hk
      have h' : ¬ vg cs i < vg cs j := by grind
      simp [Cw.so, h']
      refine vg_b hL.1 ?_
      simp [hsz]
      rw [PL_snoc1]
      exact hk _ _ _
    · rw [if_neg h] at hk
      have h' : vg cs i < vg cs j := by grind
      simp [Cw.so, h', idx2]
      refine vg_b hL.2 ?_
      simp [hsz]
      rw [PL_snoc1]
      exact hk _ _ _
  | lst i j =>
    simp [Ln.dat, idx2]
    refine vg_b hL.1 ?_
    simp [idx2]
    refine vg_b hL.2 ?_
    simp [fe__law_walk]
    refine is_true_ok (w := .lt) (bv hL.1) (bv hL.2) (by decide) ?_
    have hk : ∀ u' v' w', kf (.nx [.d d0, .d (PT vs), .d (Fr t), .own (PL (cs ++ [if vg cs i ≤ vg cs j then vg cs i else vg cs j])), .d (Ln.lst i j).dat, u', v', w']) := hk
    by_cases h : vg cs i < vg cs j
    · rw [if_pos (by grind)] at hk
      simp [Cw.so, h]
      refine vg_b hL.1 ?_
      simp [hsz]
      rw [PL_snoc1]
      exact hk _ _ _
    · have e : (if vg cs i ≤ vg cs j then vg cs i else vg cs j) = vg cs j := by
        split
        · grind
        · rfl
      rw [e] at hk
      simp [Cw.so, h, idx2]
      refine vg_b hL.2 ?_
      simp [hsz]
      rw [PL_snoc1]
      exact hk _ _ _
theorem walk_ok {vs : List Rat} {t : Rat} {Ls : List Ln} (hv : ∀ q ∈ vs, V 0 q) (ht : V 0 t) (hn : Ls.length ≤ 13) (hl : vs.length ≤ 100) (hL : progOk vs.length Ls) (hk : k (.d (PT (runR vs t Ls)))) : F__law_walk [.d (.tuple (Ls.map Ln.dat)), .d (PT vs), .d (Fr t)] k x := by
  simp [F__law_walk, runF, bt__law_walk, t0__law_walk, PT]
  rw [t1__law_walk, x_cons, x_loop]
  simp only [i_var, varS, var0, seq_t]
  let I : Nat → List SV → Prop := fun i ρ => ∃ w u v z, ρ = [.d (.tuple (Ls.map Ln.dat)), .d (PT vs), .d (Fr t), .own (PL (runR vs t (Ls.take i))), w, u, v, z]
  refine loop_inv I (i := 0) ⟨.un, .un, .un, .un, by simp [runR, PT]⟩ (fun i y ρ hy hI => ?_) fun ρ hI => ?_
  · obtain ⟨w, u, v, z, rfl⟩ := hI
    rw [Nat.zero_add] at *
    obtain ⟨L, hp, rfl⟩ := dat_get hy
    have hi : i < Ls.length := (List.getElem?_eq_some_iff.mp hp).1
    refine ⟨_, rfl, fun kf hkf => ?_⟩
    have hlen : (runR vs t (Ls.take i)).length = vs.length + i := by rw [run_len, List.length_take, Nat.min_eq_left (by omega)]
    have hV := run_V hv ht (prog_take hL i)
    rw [List.length_take, Nat.min_eq_left (by omega), Nat.zero_add] at hV
    refine walk_step hV (by simpa using ht.add i) (by omega) (by omega) (by rw [hlen]; exact hL i L hp) fun u' v' w' => ?_
    rw [← run_step hp]
    exact hkf _ ⟨_, _, _, _, rfl⟩
  · obtain ⟨w, u, v, z, rfl⟩ := hI
    rw [Nat.zero_add, List.length_map, List.take_length]
    simp [t2__law_walk]
    exact hk
end
end Lk46
end
section
set_option exponentiation.threshold 2000
/-! k46: places, t and great fractions drawn. -/
namespace Lk46
open PySem Un Pg Fd
/-- what is drawn -/
def Vd (q : Rat) : Prop := V 0 q ∧ Bd 134 q
theorem fr_lit {a b : Int} {q : Rat} (h1 : q.num = a) (h2 : (q.den : Int) = b) : PyData.tuple [.int a, .int b] = Fr q := by
  subst h1
  subst h2
  rfl
theorem vd_of {a b : Int} (hb : 1 ≤ b) (hd : b.natAbs ∣ NG) (ha : a.natAbs ≤ 10 ^ 40) (hb2 : b.natAbs ≤ 10 ^ 40) : Vd (Rat.divInt a b) := by
  constructor
  · have := rp_dvd (a := a) hb ng_pos hd
    unfold V
    rw [Nat.pow_zero, Nat.mul_one]
    refine this.mono ?_
    refine Nat.le_trans (Nat.mul_le_mul ha (Nat.le_of_lt ng_lt)) ?_
    decide +kernel
  · have h : 10 ^ 40 < 2 ^ 134 := by decide +kernel
    exact low_bd (by omega) (by omega) (by omega)
theorem dr_vd {f : Nat} {q : Rat} (h : Dr f 12 q) (hf : f ≤ 12) : Vd q := by
  obtain ⟨a, b, rfl, h1, h2, h3⟩ := h
  refine vd_of h2 ?_ (by omega) (by omega)
  have e : NG = 27720 * ((10 ^ 40 - 2) * (10 ^ 40 - 1) * (10 ^ 39 + 3)) := by unfold NG; decide +kernel
  rw [e]
  refine Nat.dvd_trans ?_ (Nat.dvd_mul_right _ _)
  have h4 : 1 ≤ b.natAbs := by omega
  generalize b.natAbs = m at h3 h4 ⊢
  have hm : m = 1 ∨ m = 2 ∨ m = 3 ∨ m = 4 ∨ m = 5 ∨ m = 6 ∨ m = 7 ∨ m = 8 ∨ m = 9 ∨ m = 10 ∨ m = 11 ∨ m = 12 := by omega
  rcases hm with rfl | rfl | rfl | rfl | rfl | rfl | rfl | rfl | rfl | rfl | rfl | rfl <;> decide
section
variable {k : KA} {x : KX}
@[simp] theorem pow40 : w2 .pow (.d (.int 10)) (.d (.int 40)) k ↔ k (.d (.int (10 ^ 40))) := ⟨fun ⟨_, _, h1, h2, h⟩ => by cases h1; cases h2; exact h.2, fun h => ⟨_, _, rfl, rfl, ⟨by decide, by decide, by decide⟩, h⟩⟩
@[simp] theorem pow39 : w2 .pow (.d (.int 10)) (.d (.int 39)) k ↔ k (.d (.int (10 ^ 39))) := ⟨fun ⟨_, _, h1, h2, h⟩ => by cases h1; cases h2; exact h.2, fun h => ⟨_, _, rfl, rfl, ⟨by decide, by decide, by decide⟩, h⟩⟩
theorem great_ok (hk : ∀ q, Vd q → k (.d (Fr q))) : F__law_great [.src] k x := by
  simp [F__law_great, runF, bt__law_great, t0__law_great, fe__law_great, szl]
  refine pick_ok (by simp) (by simp) fun y hy => ?_
  simp at hy
  simp
  have e1 : PyData.tuple [.int 9999999999999999999999999999999999999999, .int 9999999999999999999999999999999999999998] = Fr (Rat.divInt 9999999999999999999999999999999999999999 9999999999999999999999999999999999999998) := fr_lit (by decide +kernel) (by decide +kernel)
  have e2 : PyData.tuple [.int (-9999999999999999999999999999999999999999), .int 1] = Fr (Rat.divInt (-9999999999999999999999999999999999999999) 1) := fr_lit (by decide +kernel) (by decide +kernel)
  have e3 : PyData.tuple [.int 1, .int 9999999999999999999999999999999999999999] = Fr (Rat.divInt 1 9999999999999999999999999999999999999999) := fr_lit (by decide +kernel) (by decide +kernel)
  have e4 : PyData.tuple [.int (-7), .int 1000000000000000000000000000000000000003] = Fr (Rat.divInt (-7) 1000000000000000000000000000000000000003) := fr_lit (by decide +kernel) (by decide +kernel)
  rcases hy with rfl | rfl | rfl | rfl
  · rw [e1]
    exact hk _ (vd_of (by decide) (by unfold NG; decide +kernel) (by decide) (by decide))
  · rw [e2]
    exact hk _ (vd_of (by decide) (by unfold NG; decide +kernel) (by decide) (by decide))
  · rw [e3]
    exact hk _ (vd_of (by decide) (by unfold NG; decide +kernel) (by decide) (by decide))
  · rw [e4]
    exact hk _ (vd_of (by decide) (by unfold NG; decide +kernel) (by decide) (by decide))
theorem vd0 : Vd 0 := by
  have := vd_of (a := 0) (b := 1) (by decide) (by simp) (by decide) (by decide)
  simpa using this
theorem vd_neg {q : Rat} (h : Vd q) : Vd (-q) := by
  refine ⟨Rp.neg h.1, ?_, ?_⟩
  · simpa using h.2.1
  · simpa using h.2.2
theorem neg_div (q : Rat) : Rat.divInt (-q.num) q.den = -q := by rw [← Rat.neg_divInt, Rat.num_divInt_den]
theorem lneg_ok {q : Rat} (h : Bd 134 q) (hk : k (.d (Fr (-q)))) : F__law_low [.d (.int (-q.num)), .d (.int q.den)] k x := by
  refine low_ok (m := 134) (den_ne q) h.dn (by decide) ?_
  rw [neg_div]
  exact hk
theorem fr12 (hk : ∀ q, Vd q → k (.d (Fr q))) : F__law_fraction [.src, .d (.int 12), .d (.int 12)] k x := fraction_ok (f := 12) (d := 12) (by decide) (by decide) (by decide) fun q hq => hk q (dr_vd hq (by decide))
theorem fr31 (hk : ∀ q, Vd q → k (.d (Fr q))) : F__law_fraction [.src, .d (.int 3), .d (.int 1)] k x := fraction_ok (f := 3) (d := 1) (by decide) (by decide) (by decide) fun q hq => hk q (by
  obtain ⟨a, b, e, h1, h2, h3⟩ := hq
  exact dr_vd (f := 3) ⟨a, b, e, h1, h2, by omega⟩ (by decide))
theorem Fr_num {q : Rat} : w2 .idx (.d (Fr q)) (.d (.int 0)) k ↔ k (.d (.int q.num)) := idx0
theorem Fr_den {q : Rat} : w2 .idx (.d (Fr q)) (.d (.int 1)) k ↔ k (.d (.int q.den)) := idx1
theorem tick_ok (hk : ∀ q, Vd q → k (.d (Fr q))) : F__law_tick [.src] k x := by
  simp [F__law_tick, runF, bt__law_tick, t0__law_tick, fe__law_tick]
  refine fr12 fun q hq => ?_
  simp [t1__law_tick, Fr_num, Fr_den, fe__law_tick]
  refine lneg_ok hq.2 ?_
  simp [szl]
  refine fr31 fun r hr => ?_
  simp [szl]
  refine great_ok fun s hs => ?_
  simp [szl]
  refine pick_ok (by simp) (by simp) fun y hy => ?_
  simp at hy
  simp
  rcases hy with rfl | rfl | rfl | rfl | rfl
  · exact hk _ hq
  · exact hk _ (vd_neg hq)
  · exact hk 0 vd0
  · exact hk _ hr
  · exact hk _ hs
theorem list_P {P : Rat → Prop} : ∀ {ys : List PyData}, (∀ y ∈ ys, ∃ q, P q ∧ y = Fr q) → ∃ l, ys = PL l ∧ ∀ q ∈ l, P q
  | [], _ => ⟨[], rfl, fun _ h => nomatch h⟩
  | y :: ys, h => by
    obtain ⟨q, hq, rfl⟩ := h y (List.mem_cons_self ..)
    obtain ⟨l, rfl, hl⟩ := list_P fun z hz => h z (List.mem_cons_of_mem _ hz)
    exact ⟨q :: l, rfl, fun r hr => by
      rcases List.mem_cons.mp hr with rfl | hr
      · exact hq
      · exact hl r hr⟩
theorem cat_dn {xs ys : List PyData} (h : xs.length + ys.length ≤ 1000) (hk : k (.new (xs ++ ys))) : w2 .add (.d (.list xs)) (.new ys) k := ⟨_, _, rfl, rfl, sz _ h, hk⟩
theorem ix_nat {n i : Nat} (h : i < n) : ixOf n (i : Int) = some i := by
  unfold ixOf L2.ixN
  rw [if_pos (by omega), if_pos (by omega)]
  simp
theorem spot_ok {n : Nat} (h0 : 1 ≤ n) (h1 : n ≤ 12) (hk : ∀ vs : List Rat, vs.length = n → (∀ q ∈ vs, Vd q) → k (.d (PT vs))) : F__law_spot [.src, .d (.int n)] k x := by
  simp [F__law_spot, runF, bt__law_spot, t0__law_spot, fe__law_spot]
  refine fr12 fun q hq => ?_
  simp [t1__law_spot, Fr_num, Fr_den, fe__law_spot]
  refine lneg_ok hq.2 ?_
  simp [szl]
  simp [t2__law_spot]
  simp [t3__law_spot, RngOk, isNo, wipeS]
  refine ⟨by omega, ?_⟩
  refine cmp_all (P := fun y => ∃ q, Vd q ∧ y = Fr q) (fun y hy => ⟨_, rfl, fun ka h => ?_⟩) (by simpa [rngL] using sz n (by omega)) fun ys hl hp => ?_
  · simp [fe__law_spot]
    refine fr12 fun r hr => ?_
    simp [szl]
    refine cat_dn (by simp) ?_
    simp
    refine pick_ok (by simp) (by simp) fun y hy => ?_
    simp at hy
    rcases hy with rfl | rfl | rfl | rfl
    · exact h _ ⟨_, hq, rfl⟩
    · exact h _ ⟨_, vd_neg hq, rfl⟩
    · exact h _ ⟨0, vd0, rfl⟩
    · exact h _ ⟨_, hr, rfl⟩
  · obtain ⟨vs, rfl, hvs⟩ := list_P hp
    have hln : vs.length = n := by rw [PL_len] at hl; simpa [rngL] using hl
    rw [List.nil_append]
    simp [t4__law_spot, fe__law_spot]
    refine draw_ok (by decide) (by decide) fun r hr0 hr1 => ?_
    simp
    split
    · refine great_ok fun s hs => ?_
      simp
      refine draw_ok (by omega) (by omega) fun j hj0 hj1 => ?_
      obtain ⟨i, rfl⟩ : ∃ i : Nat, j = i := ⟨j.toNat, by omega⟩
      simp [PL_len, hln]
      refine ⟨i, ix_nat (by omega), ?_⟩
      simp [t5__law_spot]
      have e : (PL vs).set i (Fr s) = PL (vs.set i s) := by simp [PL, List.map_set]
      rw [e]
      refine hk _ (by simpa using hln) fun q hq => ?_
      rcases List.mem_or_eq_of_mem_set hq with h | rfl
      · exact hvs q h
      · exact hs
    · simp [t5__law_spot]
      exact hk _ hln hvs
end
end Lk46
end
section
namespace Pg
open PySem Un
abbrev n_holds : List Str := ["saying", "values"]
def b_holds : Sm := (.cons (.ifs (.bin .inn (.bin .idx (.var 0) (.dat (.int 0))) (.dat (.tuple [(.str "<"), (.str "<="), (.str "=")]))) (.cons (.ret (.call 52 [0, 1] (.cons (.bin .idx (.var 0) (.dat (.int 0))) (.cons (.call 41 [0, 1] (.cons (.bin .idx (.var 1) (.bin .idx (.var 0) (.dat (.int 1)))) (.cons (.bin .idx (.var 1) (.bin .idx (.var 0) (.dat (.int 2)))) .nil)) .nil) .nil)) .nil)) .nil) .nil) (.cons (.ifs (.bin .eq (.bin .idx (.var 0) (.dat (.int 0))) (.dat (.str "not"))) (.cons (.ret (.bnot (.call 75 [0, 1] (.cons (.bin .idx (.var 0) (.dat (.int 1))) (.cons (.var 1) .nil)) .nil))) .nil) .nil) (.cons (.ifs (.bin .eq (.bin .idx (.var 0) (.dat (.int 0))) (.dat (.str "and"))) (.cons (.ret (.band (.call 75 [0, 1] (.cons (.bin .idx (.var 0) (.dat (.int 1))) (.cons (.var 1) .nil)) .nil) (.call 75 [0, 1] (.cons (.bin .idx (.var 0) (.dat (.int 2))) (.cons (.var 1) .nil)) .nil))) .nil) .nil) (.cons (.ret (.bor (.call 75 [0, 1] (.cons (.bin .idx (.var 0) (.dat (.int 1))) (.cons (.var 1) .nil)) .nil) (.call 75 [0, 1] (.cons (.bin .idx (.var 0) (.dat (.int 2))) (.cons (.var 1) .nil)) .nil))) .nil))))
def fe_holds (h : List SV → KA → KX → Prop) : FE := fun f => match f with
  | 52 => F_is_so
  | 41 => F_order
  | 75 => h
  | _ => fun _ _ _ => False
@[irreducible] def F_holds : Nat → List SV → KA → KX → Prop
  | 0 => fun _ _ _ => False
  | n + 1 => runF (fe_holds (F_holds n)) 2 2 b_holds
theorem F_holds_z : F_holds 0 = fun _ _ _ => False := by with_unfolding_all rfl
theorem F_holds_s (n : Nat) : F_holds (n + 1) = runF (fe_holds (F_holds n)) 2 2 b_holds := by with_unfolding_all rfl
def t4_holds : Sm := .nil
def t3_holds : Sm := .cons (.ret (.bor (.call 75 [0, 1] (.cons (.bin .idx (.var 0) (.dat (.int 1))) (.cons (.var 1) .nil)) .nil) (.call 75 [0, 1] (.cons (.bin .idx (.var 0) (.dat (.int 2))) (.cons (.var 1) .nil)) .nil))) t4_holds
def t2_holds : Sm := .cons (.ifs (.bin .eq (.bin .idx (.var 0) (.dat (.int 0))) (.dat (.str "and"))) (.cons (.ret (.band (.call 75 [0, 1] (.cons (.bin .idx (.var 0) (.dat (.int 1))) (.cons (.var 1) .nil)) .nil) (.call 75 [0, 1] (.cons (.bin .idx (.var 0) (.dat (.int 2))) (.cons (.var 1) .nil)) .nil))) .nil) .nil) t3_holds
def t1_holds : Sm := .cons (.ifs (.bin .eq (.bin .idx (.var 0) (.dat (.int 0))) (.dat (.str "not"))) (.cons (.ret (.bnot (.call 75 [0, 1] (.cons (.bin .idx (.var 0) (.dat (.int 1))) (.cons (.var 1) .nil)) .nil))) .nil) .nil) t2_holds
def t0_holds : Sm := .cons (.ifs (.bin .inn (.bin .idx (.var 0) (.dat (.int 0))) (.dat (.tuple [(.str "<"), (.str "<="), (.str "=")]))) (.cons (.ret (.call 52 [0, 1] (.cons (.bin .idx (.var 0) (.dat (.int 0))) (.cons (.call 41 [0, 1] (.cons (.bin .idx (.var 1) (.bin .idx (.var 0) (.dat (.int 1)))) (.cons (.bin .idx (.var 1) (.bin .idx (.var 0) (.dat (.int 2)))) .nil)) .nil) .nil)) .nil)) .nil) .nil) t1_holds
theorem bt_holds : b_holds = t0_holds := rfl
end Pg
end
section
/-! k45 to k57: sayings; what holds tells. -/
namespace Fd
open PySem Un Pg
inductive Sy where
  | cmp (w : Cw) (i j : Nat)
  | not (a : Sy)
  | and (a b : Sy)
  | or (a b : Sy)
def Sy.dat : Sy → PyData
  | .cmp w i j => .tuple [.str w.str, .int i, .int j]
  | .not a => .tuple [.str "not", a.dat]
  | .and a b => .tuple [.str "and", a.dat, b.dat]
  | .or a b => .tuple [.str "or", a.dat, b.dat]
def Sy.ok (n : Nat) : Sy → Prop
  | .cmp _ i j => i < n ∧ j < n
  | .not a => a.ok n
  | .and a b => a.ok n ∧ b.ok n
  | .or a b => a.ok n ∧ b.ok n
def Sy.tr (vs : List Rat) : Sy → Bool
  | .cmp w i j => w.so (vg vs i) (vg vs j)
  | .not a => !a.tr vs
  | .and a b => a.tr vs && b.tr vs
  | .or a b => a.tr vs || b.tr vs
def Sy.dep : Sy → Nat
  | .cmp _ _ _ => 1
  | .not a => a.dep + 1
  | .and a b => max a.dep b.dep + 1
  | .or a b => max a.dep b.dep + 1
def Sy.len : Sy → Nat
  | .cmp _ _ _ => 4000
  | .not a => a.len + 60
  | .and a b => a.len + b.len + 60
  | .or a b => a.len + b.len + 60
def Sy.many : Sy → Nat
  | .cmp _ _ _ => 1
  | .not a => a.many
  | .and a b => a.many + b.many
  | .or a b => a.many + b.many
/-- the contrary -/
def Sy.con (sp : Bool) : Sy → Sy
  | .not a => a
  | .and a b => .or (a.con sp) (b.con sp)
  | .or a b => .and (a.con sp) (b.con sp)
  | .cmp .eq i j => if sp = true then .or (.cmp .lt j i) (.cmp .lt i j) else .not (.cmp .eq i j)
  | .cmp .lt i j => .cmp .le j i
  | .cmp .le i j => .cmp .lt j i
theorem con_tr (sp : Bool) (vs : List Rat) : ∀ s : Sy, (s.con sp).tr vs = !s.tr vs
  | .not a => by simp [Sy.con, Sy.tr]
  | .and a b => by simp [Sy.con, Sy.tr, con_tr sp vs a, con_tr sp vs b]
  | .or a b => by simp [Sy.con, Sy.tr, con_tr sp vs a, con_tr sp vs b]
  | .cmp .eq i j => by
    by_cases h : vg vs i = vg vs j
    · cases sp <;> simp [Sy.con, Sy.tr, Cw.so, h]
    · have h2 : vg vs j < vg vs i ∨ vg vs i < vg vs j := by grind
      cases sp
      · simp [Sy.con, Sy.tr, Cw.so, h]
      · rcases h2 with h2 | h2 <;> simp [Sy.con, Sy.tr, Cw.so, h, h2]
  | .cmp .lt i j => by
    by_cases h : vg vs i < vg vs j
    · have h2 : ¬ vg vs j ≤ vg vs i := by grind
      simp [Sy.con, Sy.tr, Cw.so, h, h2]
    · have h2 : vg vs j ≤ vg vs i := by grind
      simp [Sy.con, Sy.tr, Cw.so, h, h2]
  | .cmp .le i j => by
    by_cases h : vg vs i ≤ vg vs j
    · have h2 : ¬ vg vs j < vg vs i := by grind
      simp [Sy.con, Sy.tr, Cw.so, h, h2]
    · have h2 : vg vs j < vg vs i := by grind
      simp [Sy.con, Sy.tr, Cw.so, h, h2]
theorem con_ok (sp : Bool) {n : Nat} : ∀ {s : Sy}, s.ok n → (s.con sp).ok n
  | .not a, h => h
  | .and a b, h => ⟨con_ok sp h.1, con_ok sp h.2⟩
  | .or a b, h => ⟨con_ok sp h.1, con_ok sp h.2⟩
  | .cmp .eq i j, h => by
    cases sp
    · exact h
    · exact ⟨⟨h.2, h.1⟩, h⟩
  | .cmp .lt i j, h => ⟨h.2, h.1⟩
  | .cmp .le i j, h => ⟨h.2, h.1⟩
theorem con_dep (sp : Bool) : ∀ s : Sy, (s.con sp).dep ≤ s.dep + 1
  | .not a => by simp [Sy.con, Sy.dep]; omega
  | .and a b => by
    have h1 := con_dep sp a
    have h2 := con_dep sp b
    simp only [Sy.con, Sy.dep]
    omega
  | .or a b => by
    have h1 := con_dep sp a
    have h2 := con_dep sp b
    simp only [Sy.con, Sy.dep]
    omega
  | .cmp .eq i j => by cases sp <;> simp [Sy.con, Sy.dep]
  | .cmp .lt i j => by simp [Sy.con, Sy.dep]
  | .cmp .le i j => by simp [Sy.con, Sy.dep]
theorem con_len (sp : Bool) : ∀ s : Sy, (s.con sp).len ≤ 3 * s.len
  | .not a => by simp [Sy.con, Sy.len]; omega
  | .and a b => by
    have h1 := con_len sp a
    have h2 := con_len sp b
    simp only [Sy.con, Sy.len]
    omega
  | .or a b => by
    have h1 := con_len sp a
    have h2 := con_len sp b
    simp only [Sy.con, Sy.len]
    omega
  | .cmp .eq i j => by cases sp <;> simp [Sy.con, Sy.len]
  | .cmp .lt i j => by simp [Sy.con, Sy.len]
  | .cmp .le i j => by simp [Sy.con, Sy.len]
/-! ### showing -/
theorem sw2 {n m e : Nat} {a b : PyData} (ha : Sw n e a) (hb : Sw m e b) : Sw (n + m + 10) (e + 1) (.tuple [a, b]) := by
  have e := tupleText_len_le (PyData.shownAll [a, b])
  have h1 := ha.ln
  have h2 := hb.ln
  have h3 := ha.dp
  have h4 := hb.dp
  refine ⟨by simp [PyData.showable, PyData.showableAll, ha.sh, hb.sh], by simp [PyData.hasDict, PyData.hasDictAll, ha.nd, hb.nd], by simp only [PyData.depth, PyData.depthAll]; omega, ?_⟩
  show (tupleText (PyData.shownAll [a, b])).length ≤ _
  simp only [PyData.shownAll, List.map_cons, List.map_nil, List.sum_cons, List.sum_nil, List.length_cons, List.length_nil] at e ⊢
  omega
theorem sw3 {n m p e : Nat} {a b c : PyData} (ha : Sw n e a) (hb : Sw m e b) (hc : Sw p e c) : Sw (n + m + p + 12) (e + 1) (.tuple [a, b, c]) := by
  have e := tupleText_len_le (PyData.shownAll [a, b, c])
  have h1 := ha.ln
  have h2 := hb.ln
  have h3 := ha.dp
  have h4 := hb.dp
  have h5 := hc.ln
  have h6 := hc.dp
  refine ⟨by simp [PyData.showable, PyData.showableAll, ha.sh, hb.sh, hc.sh], by simp [PyData.hasDict, PyData.hasDictAll, ha.nd, hb.nd, hc.nd], by simp only [PyData.depth, PyData.depthAll]; omega, ?_⟩
  show (tupleText (PyData.shownAll [a, b, c])).length ≤ _
  simp only [PyData.shownAll, List.map_cons, List.map_nil, List.sum_cons, List.sum_nil, List.length_cons, List.length_nil] at e ⊢
  omega
theorem sw_not : Sw 40 0 (.str "not") := by constructor <;> decide +kernel
theorem sw_and : Sw 40 0 (.str "and") := by constructor <;> decide +kernel
theorem sw_or : Sw 40 0 (.str "or") := by constructor <;> decide +kernel
theorem sw_cw (w : Cw) : Sw 40 0 (.str w.str) := by cases w <;> constructor <;> decide +kernel
theorem small_int {i n : Nat} (h : i < n) (hn : n ≤ 1000) : Sw 1921 0 (.int i) := by
  refine Sw.int ?_
  rw [Int.natAbs_natCast]
  exact Nat.lt_of_lt_of_le (show i < 2 ^ 10 by omega) (Nat.pow_le_pow_right (by decide) (by decide))
theorem sy_sw {n : Nat} (hn : n ≤ 1000) : ∀ {s : Sy}, s.ok n → Sw s.len s.dep s.dat
  | .cmp w i j, h => (sw3 (sw_cw w) (small_int h.1 hn) (small_int h.2 hn)).mono (by simp [Sy.len]) (by simp [Sy.dep])
  | .not a, h => (sw2 (e := a.dep) (sw_not.mono (Nat.le_refl _) (Nat.zero_le _)) (sy_sw hn h)).mono (by simp only [Sy.len]; omega) (by simp [Sy.dep])
  | .and a b, h => (sw3 (e := max a.dep b.dep) (sw_and.mono (Nat.le_refl _) (Nat.zero_le _)) ((sy_sw hn h.1).mono (Nat.le_refl _) (by omega)) ((sy_sw hn h.2).mono (Nat.le_refl _) (by omega))).mono (by simp only [Sy.len]; omega) (by simp [Sy.dep])
  | .or a b, h => (sw3 (e := max a.dep b.dep) (sw_or.mono (Nat.le_refl _) (Nat.zero_le _)) ((sy_sw hn h.1).mono (Nat.le_refl _) (by omega)) ((sy_sw hn h.2).mono (Nat.le_refl _) (by omega))).mono (by simp only [Sy.len]; omega) (by simp [Sy.dep])
/-! ### what holds tells -/
section
variable {k : KA} {x : KX}
theorem inn_b {z : Str} {ds : List PyData} {zs : List Str} {b : Bool} (h : strsOf ds = some zs) (hb : decide (z ∈ zs) = b) (hk : k (.d (.bool b))) : w2 .inn (.d (.str z)) (.d (.tuple ds)) k := by
  subst hb
  exact ⟨_, _, rfl, rfl, .inl ⟨z, zs, rfl, h, hk⟩⟩
theorem cw_in (w : Cw) : decide (w.str ∈ [("<" : Str), "<=", "="]) = true := by cases w <;> decide
theorem cw_in2 (w : Cw) : decide (w.str ∈ [("and" : Str), "or"]) = false := by cases w <;> decide
theorem cw_not (w : Cw) : ((w.str = ("not" : Str)) = False) := by cases w <;> exact eq_false (by decide)
@[simp] theorem and_not : ((("and" : Str) = "not") = False) := eq_false (by decide)
@[simp] theorem or_not : ((("or" : Str) = "not") = False) := eq_false (by decide)
@[simp] theorem or_and : ((("or" : Str) = "and") = False) := eq_false (by decide)
theorem holds_ok {vs : List Rat} {b : Nat} (hv : ∀ q ∈ vs, Bd b q) (hb : b ≤ 4000) : ∀ (s : Sy) {m : Nat} {k : KA} {x : KX}, s.dep ≤ m → s.ok vs.length → k (.d (.bool (s.tr vs))) → F_holds m [.d s.dat, .d (PT vs)] k x
  | s, 0, k, x, h, _, _ => by
    cases s <;> simp [Sy.dep] at h
  | .cmp w i j, m + 1, k, x, h, ho, hk => by
    rw [F_holds_s]
    simp [runF, bt_holds, t0_holds, Sy.dat]
    refine inn_b rfl (cw_in w) ?_
    simp [idx2]
    refine vg_t ho.1 (vg_t ho.2 ?_)
    simp [fe_holds]
    refine order_ok (hv _ (vg_mem ho.1)) (hv _ (vg_mem ho.2)) (by omega) ?_
    simp
    exact is_so_ok hk
  | .not a, m + 1, k, x, h, ho, hk => by
    rw [F_holds_s]
    simp [runF, bt_holds, t0_holds, Sy.dat]
    refine inn_b rfl (b := false) (by decide) ?_
    simp [t1_holds, fe_holds]
    refine holds_ok hv hb a (by simp only [Sy.dep] at h; omega) ho ?_
    have hk : k (.d (.bool (!a.tr vs))) := hk
    cases e : a.tr vs <;> rw [e] at hk <;> simpa using hk
  | .and a c, m + 1, k, x, h, ho, hk => by
    have h1 : a.dep ≤ m ∧ c.dep ≤ m := by simp only [Sy.dep] at h; omega
    rw [F_holds_s]
    simp [runF, bt_holds, t0_holds, Sy.dat]
    refine inn_b rfl (b := false) (by decide) ?_
    simp [t1_holds, t2_holds, fe_holds, idx2]
    refine holds_ok hv hb a h1.1 ho.1 ?_
    have hk : k (.d (.bool (a.tr vs && c.tr vs))) := hk
    cases e : a.tr vs with
    | false =>
      rw [e] at hk
      simpa using hk
    | true =>
      rw [e] at hk
      simp
      exact holds_ok hv hb c h1.2 ho.2 (by simpa using hk)
  | .or a c, m + 1, k, x, h, ho, hk => by
    have h1 : a.dep ≤ m ∧ c.dep ≤ m := by simp only [Sy.dep] at h; omega
    rw [F_holds_s]
    simp [runF, bt_holds, t0_holds, Sy.dat]
    refine inn_b rfl (b := false) (by decide) ?_
    simp [t1_holds, t2_holds, t3_holds, fe_holds, idx2]
    refine holds_ok hv hb a h1.1 ho.1 ?_
    have hk : k (.d (.bool (a.tr vs || c.tr vs))) := hk
    cases e : a.tr vs with
    | true =>
      rw [e] at hk
      simpa using hk
    | false =>
      rw [e] at hk
      simp
      exact holds_ok hv hb c h1.2 ho.2 (by simpa using hk)
end
end Fd
end
section
namespace Lk47
open PySem Un Pg Fd
abbrev n__law_fraction : List Str := ["_law_bowl_here", "_law_far", "_law_deep_here", "_law_bottom"]
def b__law_fraction : Sm := (.cons (.set 3 (.call 56 [0, 1] (.cons (.var 0) (.cons (.lst (.cons (.dat (.int 1)) (.cons (.dat (.int 1)) (.cons (.dat (.int 1)) (.cons (.bin .add (.dat (.int 1)) (.call 0 [0, 1] (.cons (.var 0) (.cons (.var 2) .nil)) .nil)) .nil))))) .nil)) .nil)) (.cons (.ret (.call 57 [0, 1] (.cons (.bin .sub (.call 0 [0, 1] (.cons (.var 0) (.cons (.bin .add (.bin .mul (.dat (.int 2)) (.var 1)) (.dat (.int 1))) .nil)) .nil) (.var 1)) (.cons (.var 3) .nil)) .nil)) .nil))
def fe__law_fraction : FE := fun f => match f with
  | 56 => F__law_pick
  | 0 => F__law_draw
  | 57 => F__law_low
  | _ => fun _ _ _ => False
@[irreducible] def F__law_fraction : List SV → KA → KX → Prop := runF fe__law_fraction 3 4 b__law_fraction
abbrev n__law_line : List Str := ["_law_bowl_here", "_law_top", "_law_word", "_law_by", "_law_one", "_law_two", "_law_more", "_law_rest", "_law_marks", "_law_turn", "_law_at"]
def b__law_line : Sm := (.cons (.unp [4, 5, 6, 7] (.cmp [9] (.call 60 [0, 1] (.cons (.var 0) (.cons (.var 1) .nil)) .nil) (.nm 9) (.rng1 (.dat (.int 4))) .no)) (.cons (.set 3 (.call 17 [0, 1, 2] (.cons (.var 0) (.cons (.dat (.int 3)) (.cons (.dat (.int 3)) .nil))) .nil)) (.cons (.ifs (.bin .eq (.var 2) (.dat (.str "sum"))) (.cons (.set 8 (.un .sset (.slc (.lst (.cons (.var 4) (.cons (.var 5) (.cons (.var 6) .nil)))) .no (.call 0 [0, 1] (.cons (.var 0) (.cons (.dat (.int 4)) .nil)) .nil)))) (.cons (.frz 8) (.cons (.ret (.tup (.cons (.dat (.str "sum")) (.cons (.un .tuple (.cmp [10] (.tup (.cons (.call 17 [0, 1, 2] (.cons (.var 0) (.cons (.dat (.int 3)) (.cons (.dat (.int 3)) .nil))) .nil) (.cons (.var 10) .nil))) (.nm 10) (.var 8) .no)) (.cons (.call 17 [0, 1, 2] (.cons (.var 0) (.cons (.dat (.int 6)) (.cons (.dat (.int 3)) .nil))) .nil) .nil))))) .nil))) .nil) (.cons (.ifs (.bin .eq (.var 2) (.dat (.str "shift"))) (.cons (.ret (.tup (.cons (.dat (.str "shift")) (.cons (.var 4) (.cons (.var 3) .nil))))) .nil) .nil) (.cons (.ifs (.bin .eq (.var 2) (.dat (.str "choice"))) (.cons (.ret (.tup (.cons (.dat (.str "choice")) (.cons (.var 4) (.cons (.call 56 [0, 1] (.cons (.var 0) (.cons (.lst (.cons (.dat (.str "<")) (.cons (.dat (.str "<=")) (.cons (.dat (.str "=")) .nil)))) .nil)) .nil) (.cons (.var 5) (.cons (.var 6) (.cons (.var 7) .nil)))))))) .nil) .nil) (.cons (.ret (.tup (.cons (.var 2) (.cons (.var 4) (.cons (.var 5) .nil))))) .nil))))))
def fe__law_line : FE := fun f => match f with
  | 60 => F__law_name
  | 17 => F__law_fraction
  | 0 => F__law_draw
  | 56 => F__law_pick
  | _ => fun _ _ _ => False
@[irreducible] def F__law_line : List SV → KA → KX → Prop := runF fe__law_line 3 11 b__law_line
abbrev n__law_program : List Str := ["_law_bowl_here", "_law_wide", "_law_words", "_law_lines", "_law_word"]
def b__law_program : Sm := (.cons (.set 3 (.lst .nil)) (.cons (.loop (.nm 4) (.var 2) (.cons (.app 3 (.call 61 [0, 1, 2] (.cons (.var 0) (.cons (.bin .add (.var 1) (.un .len (.var 3))) (.cons (.var 4) .nil))) .nil)) .nil)) (.cons (.ret (.un .tuple (.var 3))) .nil)))
def fe__law_program : FE := fun f => match f with
  | 61 => F__law_line
  | _ => fun _ _ _ => False
@[irreducible] def F__law_program : List SV → KA → KX → Prop := runF fe__law_program 3 5 b__law_program
abbrev n__law_walk : List Str := ["_law_lines", "_law_spot", "_law_tick", "_law_known_here", "_law_line_here", "_law_is_so", "_law_by", "_law_at"]
def b__law_walk : Sm := (.cons (.set 3 (.un .list (.var 1))) (.cons (.loop (.nm 4) (.var 0) (.cons (.ifs (.bin .eq (.bin .idx (.var 4) (.dat (.int 0))) (.dat (.str "sum"))) (.cons (.app 3 (.call 58 [0] (.cons (.bin .add (.cmp [6, 7] (.tup (.cons (.var 6) (.cons (.bin .idx (.var 3) (.var 7)) .nil))) (.tp [6, 7]) (.bin .idx (.var 4) (.dat (.int 1))) .no) (.lst (.cons (.tup (.cons (.bin .idx (.var 4) (.dat (.int 2))) (.cons (.tup (.cons (.dat (.int 1)) (.cons (.dat (.int 1)) .nil))) .nil))) .nil))) .nil) .nil)) .nil) (.cons (.ifs (.bin .eq (.bin .idx (.var 4) (.dat (.int 0))) (.dat (.str "shift"))) (.cons (.app 3 (.call 58 [0] (.cons (.lst (.cons (.tup (.cons (.bin .idx (.var 3) (.bin .idx (.var 4) (.dat (.int 1)))) (.cons (.tup (.cons (.dat (.int 1)) (.cons (.dat (.int 1)) .nil))) .nil))) (.cons (.tup (.cons (.bin .idx (.var 4) (.dat (.int 2))) (.cons (.var 2) .nil))) .nil))) .nil) .nil)) .nil) (.cons (.ifs (.bin .eq (.bin .idx (.var 4) (.dat (.int 0))) (.dat (.str "choice"))) (.cons (.set 5 (.call 59 [0, 1, 2] (.cons (.bin .idx (.var 3) (.bin .idx (.var 4) (.dat (.int 1)))) (.cons (.bin .idx (.var 4) (.dat (.int 2))) (.cons (.bin .idx (.var 3) (.bin .idx (.var 4) (.dat (.int 3)))) .nil))) .nil)) (.cons (.app 3 (.ife (.var 5) (.bin .idx (.var 3) (.bin .idx (.var 4) (.dat (.int 4)))) (.bin .idx (.var 3) (.bin .idx (.var 4) (.dat (.int 5)))))) .nil)) (.cons (.set 5 (.call 59 [0, 1, 2] (.cons (.bin .idx (.var 3) (.bin .idx (.var 4) (.dat (.int 1)))) (.cons (.dat (.str "<")) (.cons (.bin .idx (.var 3) (.bin .idx (.var 4) (.dat (.int 2)))) .nil))) .nil)) (.cons (.app 3 (.ife (.bin .eq (.var 5) (.bin .eq (.bin .idx (.var 4) (.dat (.int 0))) (.dat (.str "greatest")))) (.bin .idx (.var 3) (.bin .idx (.var 4) (.dat (.int 2)))) (.bin .idx (.var 3) (.bin .idx (.var 4) (.dat (.int 1)))))) .nil))) .nil)) .nil)) .nil)) (.cons (.ret (.un .tuple (.var 3))) .nil)))
def fe__law_walk : FE := fun f => match f with
  | 58 => F__law_total
  | 59 => F__law_is_true
  | _ => fun _ _ _ => False
@[irreducible] def F__law_walk : List SV → KA → KX → Prop := runF fe__law_walk 3 8 b__law_walk
abbrev n__law_tree : List Str := ["_law_bowl_here", "_law_parts", "_law_rest", "_law_turn", "_law_whole", "_law_at", "_law_both", "_law_part"]
def b__law_tree : Sm := (.cons (.set 2 (.cmp [7] (.ife (.bin .eq (.call 0 [0, 1] (.cons (.var 0) (.cons (.dat (.int 4)) .nil)) .nil) (.dat (.int 0))) (.tup (.cons (.dat (.str "not")) (.cons (.var 7) .nil))) (.var 7)) (.nm 7) (.var 1) .no)) (.cons (.frz 2) (.cons (.loop (.nm 3) (.rng1 (.bin .sub (.un .len (.var 1)) (.dat (.int 1)))) (.cons (.set 5 (.call 0 [0, 1] (.cons (.var 0) (.cons (.bin .sub (.un .len (.var 2)) (.dat (.int 1))) .nil)) .nil)) (.cons (.set 6 (.tup (.cons (.call 56 [0, 1] (.cons (.var 0) (.cons (.lst (.cons (.dat (.str "and")) (.cons (.dat (.str "or")) .nil))) .nil)) .nil) (.cons (.bin .idx (.var 2) (.var 5)) (.cons (.bin .idx (.var 2) (.bin .add (.var 5) (.dat (.int 1)))) .nil))))) (.cons (.set 2 (.bin .add (.bin .add (.slc (.var 2) .no (.var 5)) (.lst (.cons (.ife (.bin .eq (.call 0 [0, 1] (.cons (.var 0) (.cons (.dat (.int 4)) .nil)) .nil) (.dat (.int 0))) (.tup (.cons (.dat (.str "not")) (.cons (.var 6) .nil))) (.var 6)) .nil))) (.slc (.var 2) (.bin .add (.var 5) (.dat (.int 2))) .no))) .nil)))) (.cons (.set 4 (.bin .idx (.var 2) (.dat (.int 0)))) (.cons (.loop (.nm 3) (.rng1 (.call 56 [0, 1] (.cons (.var 0) (.cons (.lst (.cons (.dat (.int 0)) (.cons (.dat (.int 0)) (.cons (.dat (.int 1)) (.cons (.dat (.int 2)) (.cons (.dat (.int 7)) (.cons (.dat (.int 20)) .nil))))))) .nil)) .nil)) (.cons (.set 4 (.tup (.cons (.dat (.str "not")) (.cons (.var 4) .nil)))) .nil)) (.cons (.ret (.var 4)) .nil))))))
def fe__law_tree : FE := fun f => match f with
  | 0 => F__law_draw
  | 56 => F__law_pick
  | _ => fun _ _ _ => False
@[irreducible] def F__law_tree : List SV → KA → KX → Prop := runF fe__law_tree 2 8 b__law_tree
abbrev n__law_truth : List Str := ["_law_claim", "_law_known_here", "_law_one", "_law_two"]
def b__law_truth : Sm := (.cons (.ifs (.bin .eq (.bin .idx (.var 0) (.dat (.int 0))) (.dat (.str "not"))) (.cons (.ret (.bnot (.call 77 [0, 1] (.cons (.bin .idx (.var 0) (.dat (.int 1))) (.cons (.var 1) .nil)) .nil))) .nil) .nil) (.cons (.ifs (.bin .inn (.bin .idx (.var 0) (.dat (.int 0))) (.tup (.cons (.dat (.str "and")) (.cons (.dat (.str "or")) .nil)))) (.cons (.par [2, 3] (.cons (.call 77 [0, 1] (.cons (.bin .idx (.var 0) (.dat (.int 1))) (.cons (.var 1) .nil)) .nil) (.cons (.call 77 [0, 1] (.cons (.bin .idx (.var 0) (.dat (.int 2))) (.cons (.var 1) .nil)) .nil) .nil))) (.cons (.ret (.ife (.bin .eq (.bin .idx (.var 0) (.dat (.int 0))) (.dat (.str "and"))) (.band (.var 2) (.var 3)) (.bor (.var 2) (.var 3)))) .nil)) .nil) (.cons (.ret (.call 59 [0, 1, 2] (.cons (.bin .idx (.var 1) (.bin .idx (.var 0) (.dat (.int 1)))) (.cons (.bin .idx (.var 0) (.dat (.int 0))) (.cons (.bin .idx (.var 1) (.bin .idx (.var 0) (.dat (.int 2)))) .nil))) .nil)) .nil)))
def fe__law_truth (h : List SV → KA → KX → Prop) : FE := fun f => match f with
  | 77 => h
  | 59 => F__law_is_true
  | _ => fun _ _ _ => False
@[irreducible] def F__law_truth : Nat → List SV → KA → KX → Prop
  | 0 => fun _ _ _ => False
  | n + 1 => runF (fe__law_truth (F__law_truth n)) 2 4 b__law_truth
theorem F__law_truth_z : F__law_truth 0 = fun _ _ _ => False := by with_unfolding_all rfl
theorem F__law_truth_s (n : Nat) : F__law_truth (n + 1) = runF (fe__law_truth (F__law_truth n)) 2 4 b__law_truth := by with_unfolding_all rfl
abbrev n__law_contrary : List Str := ["_law_claim", "_law_is_split", "_law_word"]
def b__law_contrary : Sm := (.cons (.set 2 (.bin .idx (.var 0) (.dat (.int 0)))) (.cons (.ifs (.bin .eq (.var 2) (.dat (.str "not"))) (.cons (.ret (.bin .idx (.var 0) (.dat (.int 1)))) .nil) .nil) (.cons (.ifs (.bin .inn (.var 2) (.tup (.cons (.dat (.str "and")) (.cons (.dat (.str "or")) .nil)))) (.cons (.ret (.tup (.cons (.ife (.bin .eq (.var 2) (.dat (.str "and"))) (.dat (.str "or")) (.dat (.str "and"))) (.cons (.call 78 [0, 1] (.cons (.bin .idx (.var 0) (.dat (.int 1))) (.cons (.var 1) .nil)) .nil) (.cons (.call 78 [0, 1] (.cons (.bin .idx (.var 0) (.dat (.int 2))) (.cons (.var 1) .nil)) .nil) .nil))))) .nil) .nil) (.cons (.ifs (.bin .eq (.var 2) (.dat (.str "="))) (.cons (.ret (.ife (.var 1) (.tup (.cons (.dat (.str "or")) (.cons (.tup (.cons (.dat (.str "<")) (.cons (.bin .idx (.var 0) (.dat (.int 2))) (.cons (.bin .idx (.var 0) (.dat (.int 1))) .nil)))) (.cons (.tup (.cons (.dat (.str "<")) (.cons (.bin .idx (.var 0) (.dat (.int 1))) (.cons (.bin .idx (.var 0) (.dat (.int 2))) .nil)))) .nil)))) (.tup (.cons (.dat (.str "not")) (.cons (.var 0) .nil))))) .nil) .nil) (.cons (.ret (.tup (.cons (.ife (.bin .eq (.var 2) (.dat (.str "<"))) (.dat (.str "<=")) (.dat (.str "<"))) (.cons (.bin .idx (.var 0) (.dat (.int 2))) (.cons (.bin .idx (.var 0) (.dat (.int 1))) .nil))))) .nil)))))
def fe__law_contrary (h : List SV → KA → KX → Prop) : FE := fun f => match f with
  | 78 => h
  | _ => fun _ _ _ => False
@[irreducible] def F__law_contrary : Nat → List SV → KA → KX → Prop
  | 0 => fun _ _ _ => False
  | n + 1 => runF (fe__law_contrary (F__law_contrary n)) 2 3 b__law_contrary
theorem F__law_contrary_z : F__law_contrary 0 = fun _ _ _ => False := by with_unfolding_all rfl
theorem F__law_contrary_s (n : Nat) : F__law_contrary (n + 1) = runF (fe__law_contrary (F__law_contrary n)) 2 3 b__law_contrary := by with_unfolding_all rfl
abbrev n__law_many : List Str := ["_law_claim"]
def b__law_many : Sm := (.cons (.ifs (.bin .eq (.bin .idx (.var 0) (.dat (.int 0))) (.dat (.str "not"))) (.cons (.ret (.call 79 [0] (.cons (.bin .idx (.var 0) (.dat (.int 1))) .nil) .nil)) .nil) .nil) (.cons (.ret (.ife (.bin .inn (.bin .idx (.var 0) (.dat (.int 0))) (.tup (.cons (.dat (.str "and")) (.cons (.dat (.str "or")) .nil)))) (.bin .add (.call 79 [0] (.cons (.bin .idx (.var 0) (.dat (.int 1))) .nil) .nil) (.call 79 [0] (.cons (.bin .idx (.var 0) (.dat (.int 2))) .nil) .nil)) (.dat (.int 1)))) .nil))
def fe__law_many (h : List SV → KA → KX → Prop) : FE := fun f => match f with
  | 79 => h
  | _ => fun _ _ _ => False
@[irreducible] def F__law_many : Nat → List SV → KA → KX → Prop
  | 0 => fun _ _ _ => False
  | n + 1 => runF (fe__law_many (F__law_many n)) 1 1 b__law_many
theorem F__law_many_z : F__law_many 0 = fun _ _ _ => False := by with_unfolding_all rfl
theorem F__law_many_s (n : Nat) : F__law_many (n + 1) = runF (fe__law_many (F__law_many n)) 1 1 b__law_many := by with_unfolding_all rfl
abbrev n__law_deep : List Str := ["_law_claim"]
def b__law_deep : Sm := (.cons (.ifs (.bin .eq (.bin .idx (.var 0) (.dat (.int 0))) (.dat (.str "not"))) (.cons (.ret (.bin .add (.dat (.int 1)) (.call 80 [0] (.cons (.bin .idx (.var 0) (.dat (.int 1))) .nil) .nil))) .nil) .nil) (.cons (.ret (.ife (.bin .inn (.bin .idx (.var 0) (.dat (.int 0))) (.tup (.cons (.dat (.str "and")) (.cons (.dat (.str "or")) .nil)))) (.bin .add (.dat (.int 1)) (.fn2 .max (.call 80 [0] (.cons (.bin .idx (.var 0) (.dat (.int 1))) .nil) .nil) (.call 80 [0] (.cons (.bin .idx (.var 0) (.dat (.int 2))) .nil) .nil))) (.dat (.int 1)))) .nil))
def fe__law_deep (h : List SV → KA → KX → Prop) : FE := fun f => match f with
  | 80 => h
  | _ => fun _ _ _ => False
@[irreducible] def F__law_deep : Nat → List SV → KA → KX → Prop
  | 0 => fun _ _ _ => False
  | n + 1 => runF (fe__law_deep (F__law_deep n)) 1 1 b__law_deep
theorem F__law_deep_z : F__law_deep 0 = fun _ _ _ => False := by with_unfolding_all rfl
theorem F__law_deep_s (n : Nat) : F__law_deep (n + 1) = runF (fe__law_deep (F__law_deep n)) 1 1 b__law_deep := by with_unfolding_all rfl
abbrev n__law_known : List Str := ["_law_bowl_here", "_law_own", "_law_menu", "_law_many_here", "_law_turn"]
def b__law_known : Sm := (.cons (.set 1 (.call 17 [0, 1, 2] (.cons (.var 0) (.cons (.dat (.int 12)) (.cons (.dat (.int 12)) .nil))) .nil)) (.cons (.set 2 (.lst (.cons (.var 1) (.cons (.var 1) (.cons (.call 57 [0, 1] (.cons (.un .neg (.bin .idx (.var 1) (.dat (.int 0)))) (.cons (.bin .idx (.var 1) (.dat (.int 1))) .nil)) .nil) (.cons (.tup (.cons (.dat (.int 0)) (.cons (.dat (.int 1)) .nil))) (.cons (.call 57 [0, 1] (.cons (.bin .add (.bin .mul (.bin .pow (.dat (.int 10)) (.dat (.int 12))) (.bin .idx (.var 1) (.dat (.int 0)))) (.dat (.int 1))) (.cons (.bin .mul (.bin .pow (.dat (.int 10)) (.dat (.int 12))) (.bin .idx (.var 1) (.dat (.int 1)))) .nil)) .nil) .nil))))))) (.cons (.frz 2) (.cons (.set 3 (.call 56 [0, 1] (.cons (.var 0) (.cons (.lst (.cons (.dat (.int 1)) (.cons (.dat (.int 2)) (.cons (.dat (.int 3)) (.cons (.dat (.int 12)) (.cons (.bin .add (.dat (.int 1)) (.call 0 [0, 1] (.cons (.var 0) (.cons (.dat (.int 12)) .nil)) .nil)) .nil)))))) .nil)) .nil)) (.cons (.ret (.un .tuple (.cmp [4] (.call 56 [0, 1] (.cons (.var 0) (.cons (.bin .add (.var 2) (.lst (.cons (.call 17 [0, 1, 2] (.cons (.var 0) (.cons (.dat (.int 12)) (.cons (.dat (.int 12)) .nil))) .nil) .nil))) .nil)) .nil) (.nm 4) (.rng1 (.var 3)) .no))) .nil)))))
def fe__law_known : FE := fun f => match f with
  | 17 => F__law_fraction
  | 57 => F__law_low
  | 56 => F__law_pick
  | 0 => F__law_draw
  | _ => fun _ _ _ => False
@[irreducible] def F__law_known : List SV → KA → KX → Prop := runF fe__law_known 1 5 b__law_known
abbrev n__law_leaves : List Str := ["_law_bowl_here", "_law_many_here", "_law_found", "_law_turn"]
def b__law_leaves : Sm := (.cons (.set 2 (.lst .nil)) (.cons (.loop (.nm 3) (.rng1 (.bin .add (.dat (.int 1)) (.call 0 [0, 1] (.cons (.var 0) (.cons (.dat (.int 4)) .nil)) .nil))) (.cons (.app 2 (.tup (.cons (.call 56 [0, 1] (.cons (.var 0) (.cons (.lst (.cons (.dat (.str "<")) (.cons (.dat (.str "<=")) (.cons (.dat (.str "=")) .nil)))) .nil)) .nil) (.cons (.call 0 [0, 1] (.cons (.var 0) (.cons (.var 1) .nil)) .nil) (.cons (.call 0 [0, 1] (.cons (.var 0) (.cons (.var 1) .nil)) .nil) .nil))))) .nil)) (.cons (.ret (.var 2)) .nil)))
def fe__law_leaves : FE := fun f => match f with
  | 0 => F__law_draw
  | 56 => F__law_pick
  | _ => fun _ _ _ => False
@[irreducible] def F__law_leaves : List SV → KA → KX → Prop := runF fe__law_leaves 2 4 b__law_leaves
abbrev n__law_is_told : List Str := ["_law_claim", "_law_known_here", "_law_due", "_law_kept", "_law_found"]
def b__law_is_told : Sm := (.cons (.set 3 (.bin .add (.un .repr (.var 0)) (.un .repr (.var 1)))) (.cons (.set 4 (.lst (.cons (.call 75 [0, 1] (.cons (.var 0) (.cons (.var 1) .nil)) .nil) (.cons (.call 75 [1, 0] .nil (.cons (.var 1) (.cons (.var 0) .nil))) .nil)))) (.cons (.frz 4) (.cons (.ret (.band (.bin .eq (.un .repr (.var 4)) (.un .repr (.lst (.cons (.var 2) (.cons (.var 2) .nil))))) (.bin .eq (.var 3) (.bin .add (.un .repr (.var 0)) (.un .repr (.var 1)))))) .nil))))
def fe__law_is_told : FE := fun f => match f with
  | 75 => F_holds 50
  | _ => fun _ _ _ => False
@[irreducible] def F__law_is_told : List SV → KA → KX → Prop := runF fe__law_is_told 3 5 b__law_is_told
abbrev n__law_by_truth : List Str := ["_law_bowl_here", "_law_known_here", "_law_claim", "_law_asked", "_law_turn", "_law_found", "_law_due", "_law_other", "_law_whole", "_law_is_so", "_law_some", "_law_truth_here", "_law_one", "_law_two"]
def b__law_by_truth : Sm := (.cons (.set 2 (.call 76 [0, 1] (.cons (.var 0) (.cons (.call 82 [0, 1] (.cons (.var 0) (.cons (.un .len (.var 1)) .nil)) .nil) .nil)) .nil)) (.cons (.par [6, 7] (.cons (.call 77 [0, 1] (.cons (.var 2) (.cons (.var 1) .nil)) .nil) (.cons (.call 78 [0, 1] (.cons (.var 2) (.cons (.dat (.bool true)) .nil)) .nil) .nil))) (.cons (.ifs (.bin .gt (.call 79 [0] (.cons (.var 7) .nil) .nil) (.dat (.int 4))) (.cons (.set 7 (.call 78 [0, 1] (.cons (.var 2) (.cons (.dat (.bool false)) .nil)) .nil)) .nil) .nil) (.cons (.set 3 (.lst (.cons (.lst (.cons (.var 2) (.cons (.var 6) .nil))) (.cons (.lst (.cons (.tup (.cons (.dat (.str "not")) (.cons (.var 2) .nil))) (.cons (.bnot (.var 6)) .nil))) (.cons (.lst (.cons (.var 7) (.cons (.bnot (.var 6)) .nil))) (.cons (.lst (.cons (.var 2) (.cons (.var 6) .nil))) .nil)))))) (.cons (.frz 3) (.cons (.ifs (.bin .le (.bin .add (.call 79 [0] (.cons (.var 2) .nil) .nil) (.call 79 [0] (.cons (.var 7) .nil) .nil)) (.dat (.int 4))) (.cons (.set 3 (.bin .add (.var 3) (.lst (.cons (.lst (.cons (.tup (.cons (.dat (.str "and")) (.cons (.var 2) (.cons (.var 7) .nil)))) (.cons (.dat (.bool false)) .nil))) (.cons (.lst (.cons (.tup (.cons (.dat (.str "or")) (.cons (.var 7) (.cons (.var 2) .nil)))) (.cons (.dat (.bool true)) .nil))) (.cons (.lst (.cons (.tup (.cons (.dat (.str "and")) (.cons (.var 2) (.cons (.var 2) .nil)))) (.cons (.var 6) .nil))) .nil)))))) .nil) .nil) (.cons (.unp [8, 9] (.call 56 [0, 1] (.cons (.var 0) (.cons (.lst (.cons (.lst (.cons (.var 2) (.cons (.var 6) .nil))) (.cons (.lst (.cons (.var 7) (.cons (.bnot (.var 6)) .nil))) .nil))) .nil)) .nil)) (.cons (.loop (.nm 4) (.rng1 (.bin .sub (.dat (.int 40)) (.call 80 [0] (.cons (.var 8) .nil) .nil))) (.cons (.par [8, 9] (.cons (.tup (.cons (.dat (.str "not")) (.cons (.var 8) .nil))) (.cons (.bnot (.var 9)) .nil))) .nil)) (.cons (.loop (.tp [10, 11]) (.bin .add (.var 3) (.lst (.cons (.lst (.cons (.var 8) (.cons (.var 9) .nil))) .nil))) (.cons (.ifs (.bnot (.call 83 [0, 1, 2] (.cons (.var 10) (.cons (.var 1) (.cons (.var 11) .nil))) .nil)) (.cons (.ret (.dat (.bool false))) .nil) .nil) .nil)) (.cons (.par [12, 13] (.cons (.call 0 [0, 1] (.cons (.var 0) (.cons (.un .len (.var 1)) .nil)) .nil) (.cons (.call 0 [0, 1] (.cons (.var 0) (.cons (.un .len (.var 1)) .nil)) .nil) .nil))) (.cons (.set 5 (.lst (.cons (.call 75 [0, 1] (.cons (.tup (.cons (.dat (.str "<")) (.cons (.var 12) (.cons (.var 13) .nil)))) (.cons (.var 1) .nil)) .nil) (.cons (.call 75 [0, 1] (.cons (.tup (.cons (.dat (.str "=")) (.cons (.var 12) (.cons (.var 13) .nil)))) (.cons (.var 1) .nil)) .nil) (.cons (.call 75 [0, 1] (.cons (.tup (.cons (.dat (.str "<")) (.cons (.var 13) (.cons (.var 12) .nil)))) (.cons (.var 1) .nil)) .nil) .nil))))) (.cons (.frz 5) (.cons (.ret (.bin .eq (.un .srt (.var 5)) (.lst (.cons (.dat (.bool false)) (.cons (.dat (.bool false)) (.cons (.dat (.bool true)) .nil)))))) .nil)))))))))))))
def fe__law_by_truth : FE := fun f => match f with
  | 76 => F__law_tree
  | 82 => F__law_leaves
  | 77 => F__law_truth 50
  | 78 => F__law_contrary 50
  | 79 => F__law_many 50
  | 56 => F__law_pick
  | 80 => F__law_deep 50
  | 83 => F__law_is_told
  | 0 => F__law_draw
  | 75 => F_holds 50
  | _ => fun _ _ _ => False
@[irreducible] def F__law_by_truth : List SV → KA → KX → Prop := runF fe__law_by_truth 2 14 b__law_by_truth
abbrev n__law_by_choices : List Str := ["_law_bowl_here", "_law_words", "_law_lines", "_law_own", "_law_spot", "_law_tick", "_law_known_here", "_law_wide", "_law_at", "_law_line_here", "_law_mark", "_law_one", "_law_claim", "_law_turn", "_law_pairs"]
def b__law_by_choices : Sm := (.cons (.par [7, 1] (.cons (.bin .add (.dat (.int 1)) (.call 0 [0, 1] (.cons (.var 0) (.cons (.dat (.int 3)) .nil)) .nil)) (.cons (.lst (.cons (.dat (.str "greatest")) (.cons (.dat (.str "least")) (.cons (.dat (.str "choice")) (.cons (.dat (.str "choice")) .nil))))) .nil))) (.cons (.frz 1) (.cons (.set 1 (.bin .add (.lst (.cons (.call 56 [0, 1] (.cons (.var 0) (.cons (.lst (.cons (.dat (.str "sum")) (.cons (.dat (.str "shift")) .nil))) .nil)) .nil) .nil)) (.slc (.var 1) (.call 0 [0, 1] (.cons (.var 0) (.cons (.dat (.int 3)) .nil)) .nil) .no))) (.cons (.frz 1) (.cons (.set 2 (.call 62 [0, 1, 2] (.cons (.var 0) (.cons (.var 7) (.cons (.var 1) .nil))) .nil)) (.cons (.set 3 (.call 17 [0, 1, 2] (.cons (.var 0) (.cons (.dat (.int 6)) (.cons (.dat (.int 3)) .nil))) .nil)) (.cons (.set 4 (.un .tuple (.cmp [13] (.call 56 [0, 1] (.cons (.var 0) (.cons (.lst (.cons (.var 3) (.cons (.var 3) (.cons (.call 17 [0, 1, 2] (.cons (.var 0) (.cons (.dat (.int 6)) (.cons (.dat (.int 3)) .nil))) .nil) .nil)))) .nil)) .nil) (.nm 13) (.rng1 (.var 7)) .no))) (.cons (.set 5 (.call 56 [0, 1] (.cons (.var 0) (.cons (.lst (.cons (.tup (.cons (.dat (.int 0)) (.cons (.dat (.int 1)) .nil))) (.cons (.var 3) (.cons (.tup (.cons (.un .neg (.dat (.int 1))) (.cons (.dat (.int 2)) .nil))) .nil)))) .nil)) .nil)) (.cons (.set 6 (.call 55 [0, 1, 2] (.cons (.var 2) (.cons (.var 4) (.cons (.var 5) .nil))) .nil)) (.cons (.ifs (.bin .ne (.un .repr (.var 6)) (.un .repr (.call 63 [0, 1, 2] (.cons (.var 2) (.cons (.var 4) (.cons (.var 5) .nil))) .nil))) (.cons (.ret (.dat (.bool false))) .nil) .nil) (.cons (.loop (.tp [8, 9]) (.enu (.var 2)) (.cons (.set 10 (.bin .add (.var 7) (.var 8))) (.cons (.ifs (.bin .eq (.bin .idx (.var 9) (.dat (.int 0))) (.dat (.str "choice"))) (.cons (.set 11 (.tup (.cons (.dat (.str "and")) (.cons (.bin .add (.slc (.var 9) (.dat (.int 2)) (.dat (.int 3))) (.tup (.cons (.bin .idx (.var 9) (.dat (.int 1))) (.cons (.bin .idx (.var 9) (.dat (.int 3))) .nil)))) (.cons (.tup (.cons (.dat (.str "=")) (.cons (.bin .idx (.var 9) (.dat (.int 4))) (.cons (.var 10) .nil)))) .nil))))) (.cons (.set 12 (.tup (.cons (.dat (.str "or")) (.cons (.var 11) (.cons (.tup (.cons (.dat (.str "and")) (.cons (.tup (.cons (.dat (.str "not")) (.cons (.tup (.cons (.bin .idx (.var 9) (.dat (.int 2))) (.cons (.bin .idx (.var 9) (.dat (.int 1))) (.cons (.bin .idx (.var 9) (.dat (.int 3))) .nil)))) .nil))) (.cons (.tup (.cons (.dat (.str "=")) (.cons (.var 10) (.cons (.bin .idx (.var 9) (.dat (.int 5))) .nil)))) .nil)))) .nil))))) .nil)) (.cons (.ifs (.bin .inn (.bin .idx (.var 9) (.dat (.int 0))) (.tup (.cons (.dat (.str "greatest")) (.cons (.dat (.str "least")) .nil)))) (.cons (.set 14 (.ife (.bin .eq (.bin .idx (.var 9) (.dat (.int 0))) (.dat (.str "least"))) (.lst (.cons (.tup (.cons (.var 10) (.cons (.bin .idx (.var 9) (.dat (.int 1))) .nil))) (.cons (.tup (.cons (.var 10) (.cons (.bin .idx (.var 9) (.dat (.int 2))) .nil))) .nil))) (.lst (.cons (.tup (.cons (.bin .idx (.var 9) (.dat (.int 1))) (.cons (.var 10) .nil))) (.cons (.tup (.cons (.bin .idx (.var 9) (.dat (.int 2))) (.cons (.var 10) .nil))) .nil))))) (.cons (.set 12 (.tup (.cons (.dat (.str "and")) (.cons (.bin .add (.tup (.cons (.dat (.str "<=")) .nil)) (.bin .idx (.var 14) (.dat (.int 0)))) (.cons (.bin .add (.tup (.cons (.dat (.str "<=")) .nil)) (.bin .idx (.var 14) (.dat (.int 1)))) .nil))))) (.cons (.set 12 (.tup (.cons (.dat (.str "and")) (.cons (.var 12) (.cons (.tup (.cons (.dat (.str "or")) (.cons (.tup (.cons (.dat (.str "=")) (.cons (.bin .idx (.var 9) (.dat (.int 1))) (.cons (.var 10) .nil)))) (.cons (.tup (.cons (.dat (.str "=")) (.cons (.bin .idx (.var 9) (.dat (.int 2))) (.cons (.var 10) .nil)))) .nil)))) .nil))))) .nil))) (.cons (.set 12 (.tup (.cons (.dat (.str "not")) (.cons (.tup (.cons (.dat (.str "<")) (.cons (.var 10) (.cons (.var 10) .nil)))) .nil)))) .nil)) .nil)) (.cons (.ifs (.bor (.bnot (.call 83 [0, 1, 2] (.cons (.var 12) (.cons (.var 6) (.cons (.dat (.bool true)) .nil))) .nil)) (.bnot (.call 83 [0, 1, 2] (.cons (.tup (.cons (.dat (.str "not")) (.cons (.var 12) .nil))) (.cons (.var 6) (.cons (.dat (.bool false)) .nil))) .nil))) (.cons (.ret (.dat (.bool false))) .nil) .nil) .nil)))) (.cons (.ret (.call 84 [0, 1] (.cons (.var 0) (.cons (.var 6) .nil)) .nil)) .nil))))))))))))
def fe__law_by_choices : FE := fun f => match f with
  | 0 => F__law_draw
  | 56 => F__law_pick
  | 62 => F__law_program
  | 17 => F__law_fraction
  | 55 => F_run
  | 63 => F__law_walk
  | 83 => F__law_is_told
  | 84 => F__law_by_truth
  | _ => fun _ _ _ => False
@[irreducible] def F__law_by_choices : List SV → KA → KX → Prop := runF fe__law_by_choices 1 15 b__law_by_choices
abbrev n_law : List Str := ["_law_script", "_law_bowl_here", "_law_turn", "_law_pair", "_law_found"]
def b_law : Sm := (.cons (.loop (.nm 2) (.rng1 (.dat (.int 6))) (.cons (.ifs (.bnot (.call 84 [0, 1] (.cons (.var 1) (.cons (.call 81 [0] (.cons (.var 1) .nil) .nil) .nil)) .nil)) (.cons (.ret (.dat (.bool false))) .nil) .nil) .nil)) (.cons (.loop (.nm 2) (.rng1 (.dat (.int 2))) (.cons (.ifs (.bnot (.call 85 [0] (.cons (.var 1) .nil) .nil)) (.cons (.ret (.dat (.bool false))) .nil) .nil) .nil)) (.cons (.set 3 (.tup (.cons (.tup (.cons (.dat (.int 1)) (.cons (.dat (.int 2)) .nil))) (.cons (.tup (.cons (.dat (.int 2)) (.cons (.dat (.int 3)) .nil))) .nil)))) (.cons (.set 4 (.lst (.cons (.call 75 [0, 1] (.cons (.tup (.cons (.dat (.str "<")) (.cons (.dat (.int 0)) (.cons (.dat (.int 1)) .nil)))) (.cons (.var 3) .nil)) .nil) (.cons (.call 75 [0, 1] (.cons (.tup (.cons (.dat (.str "<=")) (.cons (.dat (.int 1)) (.cons (.dat (.int 0)) .nil)))) (.cons (.var 3) .nil)) .nil) .nil)))) (.cons (.frz 4) (.cons (.set 4 (.bin .add (.var 4) (.lst (.cons (.call 75 [0, 1] (.cons (.tup (.cons (.dat (.str "or")) (.cons (.tup (.cons (.dat (.str "=")) (.cons (.dat (.int 0)) (.cons (.dat (.int 1)) .nil)))) (.cons (.tup (.cons (.dat (.str "not")) (.cons (.tup (.cons (.dat (.str "=")) (.cons (.dat (.int 0)) (.cons (.dat (.int 1)) .nil)))) .nil))) .nil)))) (.cons (.var 3) .nil)) .nil) .nil)))) (.cons (.ret (.bin .eq (.un .repr (.bin .add (.var 4) (.lst (.cons (.call 75 [0, 1] (.cons (.tup (.cons (.dat (.str "and")) (.cons (.tup (.cons (.dat (.str "<=")) (.cons (.dat (.int 1)) (.cons (.dat (.int 1)) .nil)))) (.cons (.tup (.cons (.dat (.str "<")) (.cons (.dat (.int 1)) (.cons (.dat (.int 1)) .nil)))) .nil)))) (.cons (.var 3) .nil)) .nil) .nil)))) (.un .repr (.lst (.cons (.dat (.bool true)) (.cons (.dat (.bool false)) (.cons (.dat (.bool true)) (.cons (.dat (.bool false)) .nil)))))))) .nil)))))))
def fe_law : FE := fun f => match f with
  | 84 => F__law_by_truth
  | 81 => F__law_known
  | 85 => F__law_by_choices
  | 75 => F_holds 50
  | _ => fun _ _ _ => False
def t2__law_fraction : Sm := .nil
def t1__law_fraction : Sm := .cons (.ret (.call 57 [0, 1] (.cons (.bin .sub (.call 0 [0, 1] (.cons (.var 0) (.cons (.bin .add (.bin .mul (.dat (.int 2)) (.var 1)) (.dat (.int 1))) .nil)) .nil) (.var 1)) (.cons (.var 3) .nil)) .nil)) t2__law_fraction
def t0__law_fraction : Sm := .cons (.set 3 (.call 56 [0, 1] (.cons (.var 0) (.cons (.lst (.cons (.dat (.int 1)) (.cons (.dat (.int 1)) (.cons (.dat (.int 1)) (.cons (.bin .add (.dat (.int 1)) (.call 0 [0, 1] (.cons (.var 0) (.cons (.var 2) .nil)) .nil)) .nil))))) .nil)) .nil)) t1__law_fraction
theorem bt__law_fraction : b__law_fraction = t0__law_fraction := rfl
def t3__law_line_2a : Sm := .nil
def t2__law_line_2a : Sm := .cons (.ret (.tup (.cons (.dat (.str "sum")) (.cons (.un .tuple (.cmp [10] (.tup (.cons (.call 17 [0, 1, 2] (.cons (.var 0) (.cons (.dat (.int 3)) (.cons (.dat (.int 3)) .nil))) .nil) (.cons (.var 10) .nil))) (.nm 10) (.var 8) .no)) (.cons (.call 17 [0, 1, 2] (.cons (.var 0) (.cons (.dat (.int 6)) (.cons (.dat (.int 3)) .nil))) .nil) .nil))))) t3__law_line_2a
def t1__law_line_2a : Sm := .cons (.frz 8) t2__law_line_2a
def t0__law_line_2a : Sm := .cons (.set 8 (.un .sset (.slc (.lst (.cons (.var 4) (.cons (.var 5) (.cons (.var 6) .nil)))) .no (.call 0 [0, 1] (.cons (.var 0) (.cons (.dat (.int 4)) .nil)) .nil)))) t1__law_line_2a
def t6__law_line : Sm := .nil
def t5__law_line : Sm := .cons (.ret (.tup (.cons (.var 2) (.cons (.var 4) (.cons (.var 5) .nil))))) t6__law_line
def t4__law_line : Sm := .cons (.ifs (.bin .eq (.var 2) (.dat (.str "choice"))) (.cons (.ret (.tup (.cons (.dat (.str "choice")) (.cons (.var 4) (.cons (.call 56 [0, 1] (.cons (.var 0) (.cons (.lst (.cons (.dat (.str "<")) (.cons (.dat (.str "<=")) (.cons (.dat (.str "=")) .nil)))) .nil)) .nil) (.cons (.var 5) (.cons (.var 6) (.cons (.var 7) .nil)))))))) .nil) .nil) t5__law_line
def t3__law_line : Sm := .cons (.ifs (.bin .eq (.var 2) (.dat (.str "shift"))) (.cons (.ret (.tup (.cons (.dat (.str "shift")) (.cons (.var 4) (.cons (.var 3) .nil))))) .nil) .nil) t4__law_line
def t2__law_line : Sm := .cons (.ifs (.bin .eq (.var 2) (.dat (.str "sum"))) t0__law_line_2a .nil) t3__law_line
def t1__law_line : Sm := .cons (.set 3 (.call 17 [0, 1, 2] (.cons (.var 0) (.cons (.dat (.int 3)) (.cons (.dat (.int 3)) .nil))) .nil)) t2__law_line
def t0__law_line : Sm := .cons (.unp [4, 5, 6, 7] (.cmp [9] (.call 60 [0, 1] (.cons (.var 0) (.cons (.var 1) .nil)) .nil) (.nm 9) (.rng1 (.dat (.int 4))) .no)) t1__law_line
theorem bt__law_line : b__law_line = t0__law_line := rfl
def t3__law_program : Sm := .nil
def t2__law_program : Sm := .cons (.ret (.un .tuple (.var 3))) t3__law_program
def t1__law_program : Sm := .cons (.loop (.nm 4) (.var 2) (.cons (.app 3 (.call 61 [0, 1, 2] (.cons (.var 0) (.cons (.bin .add (.var 1) (.un .len (.var 3))) (.cons (.var 4) .nil))) .nil)) .nil)) t2__law_program
def t0__law_program : Sm := .cons (.set 3 (.lst .nil)) t1__law_program
theorem bt__law_program : b__law_program = t0__law_program := rfl
def t3__law_walk : Sm := .nil
def t2__law_walk : Sm := .cons (.ret (.un .tuple (.var 3))) t3__law_walk
def t1__law_walk : Sm := .cons (.loop (.nm 4) (.var 0) (.cons (.ifs (.bin .eq (.bin .idx (.var 4) (.dat (.int 0))) (.dat (.str "sum"))) (.cons (.app 3 (.call 58 [0] (.cons (.bin .add (.cmp [6, 7] (.tup (.cons (.var 6) (.cons (.bin .idx (.var 3) (.var 7)) .nil))) (.tp [6, 7]) (.bin .idx (.var 4) (.dat (.int 1))) .no) (.lst (.cons (.tup (.cons (.bin .idx (.var 4) (.dat (.int 2))) (.cons (.tup (.cons (.dat (.int 1)) (.cons (.dat (.int 1)) .nil))) .nil))) .nil))) .nil) .nil)) .nil) (.cons (.ifs (.bin .eq (.bin .idx (.var 4) (.dat (.int 0))) (.dat (.str "shift"))) (.cons (.app 3 (.call 58 [0] (.cons (.lst (.cons (.tup (.cons (.bin .idx (.var 3) (.bin .idx (.var 4) (.dat (.int 1)))) (.cons (.tup (.cons (.dat (.int 1)) (.cons (.dat (.int 1)) .nil))) .nil))) (.cons (.tup (.cons (.bin .idx (.var 4) (.dat (.int 2))) (.cons (.var 2) .nil))) .nil))) .nil) .nil)) .nil) (.cons (.ifs (.bin .eq (.bin .idx (.var 4) (.dat (.int 0))) (.dat (.str "choice"))) (.cons (.set 5 (.call 59 [0, 1, 2] (.cons (.bin .idx (.var 3) (.bin .idx (.var 4) (.dat (.int 1)))) (.cons (.bin .idx (.var 4) (.dat (.int 2))) (.cons (.bin .idx (.var 3) (.bin .idx (.var 4) (.dat (.int 3)))) .nil))) .nil)) (.cons (.app 3 (.ife (.var 5) (.bin .idx (.var 3) (.bin .idx (.var 4) (.dat (.int 4)))) (.bin .idx (.var 3) (.bin .idx (.var 4) (.dat (.int 5)))))) .nil)) (.cons (.set 5 (.call 59 [0, 1, 2] (.cons (.bin .idx (.var 3) (.bin .idx (.var 4) (.dat (.int 1)))) (.cons (.dat (.str "<")) (.cons (.bin .idx (.var 3) (.bin .idx (.var 4) (.dat (.int 2)))) .nil))) .nil)) (.cons (.app 3 (.ife (.bin .eq (.var 5) (.bin .eq (.bin .idx (.var 4) (.dat (.int 0))) (.dat (.str "greatest")))) (.bin .idx (.var 3) (.bin .idx (.var 4) (.dat (.int 2)))) (.bin .idx (.var 3) (.bin .idx (.var 4) (.dat (.int 1)))))) .nil))) .nil)) .nil)) .nil)) t2__law_walk
def t0__law_walk : Sm := .cons (.set 3 (.un .list (.var 1))) t1__law_walk
theorem bt__law_walk : b__law_walk = t0__law_walk := rfl
def t3__law_tree_2 : Sm := .nil
def t2__law_tree_2 : Sm := .cons (.set 2 (.bin .add (.bin .add (.slc (.var 2) .no (.var 5)) (.lst (.cons (.ife (.bin .eq (.call 0 [0, 1] (.cons (.var 0) (.cons (.dat (.int 4)) .nil)) .nil) (.dat (.int 0))) (.tup (.cons (.dat (.str "not")) (.cons (.var 6) .nil))) (.var 6)) .nil))) (.slc (.var 2) (.bin .add (.var 5) (.dat (.int 2))) .no))) t3__law_tree_2
def t1__law_tree_2 : Sm := .cons (.set 6 (.tup (.cons (.call 56 [0, 1] (.cons (.var 0) (.cons (.lst (.cons (.dat (.str "and")) (.cons (.dat (.str "or")) .nil))) .nil)) .nil) (.cons (.bin .idx (.var 2) (.var 5)) (.cons (.bin .idx (.var 2) (.bin .add (.var 5) (.dat (.int 1)))) .nil))))) t2__law_tree_2
def t0__law_tree_2 : Sm := .cons (.set 5 (.call 0 [0, 1] (.cons (.var 0) (.cons (.bin .sub (.un .len (.var 2)) (.dat (.int 1))) .nil)) .nil)) t1__law_tree_2
def t6__law_tree : Sm := .nil
def t5__law_tree : Sm := .cons (.ret (.var 4)) t6__law_tree
def t4__law_tree : Sm := .cons (.loop (.nm 3) (.rng1 (.call 56 [0, 1] (.cons (.var 0) (.cons (.lst (.cons (.dat (.int 0)) (.cons (.dat (.int 0)) (.cons (.dat (.int 1)) (.cons (.dat (.int 2)) (.cons (.dat (.int 7)) (.cons (.dat (.int 20)) .nil))))))) .nil)) .nil)) (.cons (.set 4 (.tup (.cons (.dat (.str "not")) (.cons (.var 4) .nil)))) .nil)) t5__law_tree
def t3__law_tree : Sm := .cons (.set 4 (.bin .idx (.var 2) (.dat (.int 0)))) t4__law_tree
def t2__law_tree : Sm := .cons (.loop (.nm 3) (.rng1 (.bin .sub (.un .len (.var 1)) (.dat (.int 1)))) t0__law_tree_2) t3__law_tree
def t1__law_tree : Sm := .cons (.frz 2) t2__law_tree
def t0__law_tree : Sm := .cons (.set 2 (.cmp [7] (.ife (.bin .eq (.call 0 [0, 1] (.cons (.var 0) (.cons (.dat (.int 4)) .nil)) .nil) (.dat (.int 0))) (.tup (.cons (.dat (.str "not")) (.cons (.var 7) .nil))) (.var 7)) (.nm 7) (.var 1) .no)) t1__law_tree
theorem bt__law_tree : b__law_tree = t0__law_tree := rfl
def t2__law_truth_1a : Sm := .nil
def t1__law_truth_1a : Sm := .cons (.ret (.ife (.bin .eq (.bin .idx (.var 0) (.dat (.int 0))) (.dat (.str "and"))) (.band (.var 2) (.var 3)) (.bor (.var 2) (.var 3)))) t2__law_truth_1a
def t0__law_truth_1a : Sm := .cons (.par [2, 3] (.cons (.call 77 [0, 1] (.cons (.bin .idx (.var 0) (.dat (.int 1))) (.cons (.var 1) .nil)) .nil) (.cons (.call 77 [0, 1] (.cons (.bin .idx (.var 0) (.dat (.int 2))) (.cons (.var 1) .nil)) .nil) .nil))) t1__law_truth_1a
def t3__law_truth : Sm := .nil
def t2__law_truth : Sm := .cons (.ret (.call 59 [0, 1, 2] (.cons (.bin .idx (.var 1) (.bin .idx (.var 0) (.dat (.int 1)))) (.cons (.bin .idx (.var 0) (.dat (.int 0))) (.cons (.bin .idx (.var 1) (.bin .idx (.var 0) (.dat (.int 2)))) .nil))) .nil)) t3__law_truth
def t1__law_truth : Sm := .cons (.ifs (.bin .inn (.bin .idx (.var 0) (.dat (.int 0))) (.tup (.cons (.dat (.str "and")) (.cons (.dat (.str "or")) .nil)))) t0__law_truth_1a .nil) t2__law_truth
def t0__law_truth : Sm := .cons (.ifs (.bin .eq (.bin .idx (.var 0) (.dat (.int 0))) (.dat (.str "not"))) (.cons (.ret (.bnot (.call 77 [0, 1] (.cons (.bin .idx (.var 0) (.dat (.int 1))) (.cons (.var 1) .nil)) .nil))) .nil) .nil) t1__law_truth
theorem bt__law_truth : b__law_truth = t0__law_truth := rfl
def t5__law_contrary : Sm := .nil
def t4__law_contrary : Sm := .cons (.ret (.tup (.cons (.ife (.bin .eq (.var 2) (.dat (.str "<"))) (.dat (.str "<=")) (.dat (.str "<"))) (.cons (.bin .idx (.var 0) (.dat (.int 2))) (.cons (.bin .idx (.var 0) (.dat (.int 1))) .nil))))) t5__law_contrary
def t3__law_contrary : Sm := .cons (.ifs (.bin .eq (.var 2) (.dat (.str "="))) (.cons (.ret (.ife (.var 1) (.tup (.cons (.dat (.str "or")) (.cons (.tup (.cons (.dat (.str "<")) (.cons (.bin .idx (.var 0) (.dat (.int 2))) (.cons (.bin .idx (.var 0) (.dat (.int 1))) .nil)))) (.cons (.tup (.cons (.dat (.str "<")) (.cons (.bin .idx (.var 0) (.dat (.int 1))) (.cons (.bin .idx (.var 0) (.dat (.int 2))) .nil)))) .nil)))) (.tup (.cons (.dat (.str "not")) (.cons (.var 0) .nil))))) .nil) .nil) t4__law_contrary
def t2__law_contrary : Sm := .cons (.ifs (.bin .inn (.var 2) (.tup (.cons (.dat (.str "and")) (.cons (.dat (.str "or")) .nil)))) (.cons (.ret (.tup (.cons (.ife (.bin .eq (.var 2) (.dat (.str "and"))) (.dat (.str "or")) (.dat (.str "and"))) (.cons (.call 78 [0, 1] (.cons (.bin .idx (.var 0) (.dat (.int 1))) (.cons (.var 1) .nil)) .nil) (.cons (.call 78 [0, 1] (.cons (.bin .idx (.var 0) (.dat (.int 2))) (.cons (.var 1) .nil)) .nil) .nil))))) .nil) .nil) t3__law_contrary
def t1__law_contrary : Sm := .cons (.ifs (.bin .eq (.var 2) (.dat (.str "not"))) (.cons (.ret (.bin .idx (.var 0) (.dat (.int 1)))) .nil) .nil) t2__law_contrary
def t0__law_contrary : Sm := .cons (.set 2 (.bin .idx (.var 0) (.dat (.int 0)))) t1__law_contrary
theorem bt__law_contrary : b__law_contrary = t0__law_contrary := rfl
def t2__law_many : Sm := .nil
def t1__law_many : Sm := .cons (.ret (.ife (.bin .inn (.bin .idx (.var 0) (.dat (.int 0))) (.tup (.cons (.dat (.str "and")) (.cons (.dat (.str "or")) .nil)))) (.bin .add (.call 79 [0] (.cons (.bin .idx (.var 0) (.dat (.int 1))) .nil) .nil) (.call 79 [0] (.cons (.bin .idx (.var 0) (.dat (.int 2))) .nil) .nil)) (.dat (.int 1)))) t2__law_many
def t0__law_many : Sm := .cons (.ifs (.bin .eq (.bin .idx (.var 0) (.dat (.int 0))) (.dat (.str "not"))) (.cons (.ret (.call 79 [0] (.cons (.bin .idx (.var 0) (.dat (.int 1))) .nil) .nil)) .nil) .nil) t1__law_many
theorem bt__law_many : b__law_many = t0__law_many := rfl
def t2__law_deep : Sm := .nil
def t1__law_deep : Sm := .cons (.ret (.ife (.bin .inn (.bin .idx (.var 0) (.dat (.int 0))) (.tup (.cons (.dat (.str "and")) (.cons (.dat (.str "or")) .nil)))) (.bin .add (.dat (.int 1)) (.fn2 .max (.call 80 [0] (.cons (.bin .idx (.var 0) (.dat (.int 1))) .nil) .nil) (.call 80 [0] (.cons (.bin .idx (.var 0) (.dat (.int 2))) .nil) .nil))) (.dat (.int 1)))) t2__law_deep
def t0__law_deep : Sm := .cons (.ifs (.bin .eq (.bin .idx (.var 0) (.dat (.int 0))) (.dat (.str "not"))) (.cons (.ret (.bin .add (.dat (.int 1)) (.call 80 [0] (.cons (.bin .idx (.var 0) (.dat (.int 1))) .nil) .nil))) .nil) .nil) t1__law_deep
theorem bt__law_deep : b__law_deep = t0__law_deep := rfl
def t5__law_known : Sm := .nil
def t4__law_known : Sm := .cons (.ret (.un .tuple (.cmp [4] (.call 56 [0, 1] (.cons (.var 0) (.cons (.bin .add (.var 2) (.lst (.cons (.call 17 [0, 1, 2] (.cons (.var 0) (.cons (.dat (.int 12)) (.cons (.dat (.int 12)) .nil))) .nil) .nil))) .nil)) .nil) (.nm 4) (.rng1 (.var 3)) .no))) t5__law_known
def t3__law_known : Sm := .cons (.set 3 (.call 56 [0, 1] (.cons (.var 0) (.cons (.lst (.cons (.dat (.int 1)) (.cons (.dat (.int 2)) (.cons (.dat (.int 3)) (.cons (.dat (.int 12)) (.cons (.bin .add (.dat (.int 1)) (.call 0 [0, 1] (.cons (.var 0) (.cons (.dat (.int 12)) .nil)) .nil)) .nil)))))) .nil)) .nil)) t4__law_known
def t2__law_known : Sm := .cons (.frz 2) t3__law_known
def t1__law_known : Sm := .cons (.set 2 (.lst (.cons (.var 1) (.cons (.var 1) (.cons (.call 57 [0, 1] (.cons (.un .neg (.bin .idx (.var 1) (.dat (.int 0)))) (.cons (.bin .idx (.var 1) (.dat (.int 1))) .nil)) .nil) (.cons (.tup (.cons (.dat (.int 0)) (.cons (.dat (.int 1)) .nil))) (.cons (.call 57 [0, 1] (.cons (.bin .add (.bin .mul (.bin .pow (.dat (.int 10)) (.dat (.int 12))) (.bin .idx (.var 1) (.dat (.int 0)))) (.dat (.int 1))) (.cons (.bin .mul (.bin .pow (.dat (.int 10)) (.dat (.int 12))) (.bin .idx (.var 1) (.dat (.int 1)))) .nil)) .nil) .nil))))))) t2__law_known
def t0__law_known : Sm := .cons (.set 1 (.call 17 [0, 1, 2] (.cons (.var 0) (.cons (.dat (.int 12)) (.cons (.dat (.int 12)) .nil))) .nil)) t1__law_known
theorem bt__law_known : b__law_known = t0__law_known := rfl
def t3__law_leaves : Sm := .nil
def t2__law_leaves : Sm := .cons (.ret (.var 2)) t3__law_leaves
def t1__law_leaves : Sm := .cons (.loop (.nm 3) (.rng1 (.bin .add (.dat (.int 1)) (.call 0 [0, 1] (.cons (.var 0) (.cons (.dat (.int 4)) .nil)) .nil))) (.cons (.app 2 (.tup (.cons (.call 56 [0, 1] (.cons (.var 0) (.cons (.lst (.cons (.dat (.str "<")) (.cons (.dat (.str "<=")) (.cons (.dat (.str "=")) .nil)))) .nil)) .nil) (.cons (.call 0 [0, 1] (.cons (.var 0) (.cons (.var 1) .nil)) .nil) (.cons (.call 0 [0, 1] (.cons (.var 0) (.cons (.var 1) .nil)) .nil) .nil))))) .nil)) t2__law_leaves
def t0__law_leaves : Sm := .cons (.set 2 (.lst .nil)) t1__law_leaves
theorem bt__law_leaves : b__law_leaves = t0__law_leaves := rfl
def t4__law_is_told : Sm := .nil
def t3__law_is_told : Sm := .cons (.ret (.band (.bin .eq (.un .repr (.var 4)) (.un .repr (.lst (.cons (.var 2) (.cons (.var 2) .nil))))) (.bin .eq (.var 3) (.bin .add (.un .repr (.var 0)) (.un .repr (.var 1)))))) t4__law_is_told
def t2__law_is_told : Sm := .cons (.frz 4) t3__law_is_told
def t1__law_is_told : Sm := .cons (.set 4 (.lst (.cons (.call 75 [0, 1] (.cons (.var 0) (.cons (.var 1) .nil)) .nil) (.cons (.call 75 [1, 0] .nil (.cons (.var 1) (.cons (.var 0) .nil))) .nil)))) t2__law_is_told
def t0__law_is_told : Sm := .cons (.set 3 (.bin .add (.un .repr (.var 0)) (.un .repr (.var 1)))) t1__law_is_told
theorem bt__law_is_told : b__law_is_told = t0__law_is_told := rfl
def t13__law_by_truth : Sm := .nil
def t12__law_by_truth : Sm := .cons (.ret (.bin .eq (.un .srt (.var 5)) (.lst (.cons (.dat (.bool false)) (.cons (.dat (.bool false)) (.cons (.dat (.bool true)) .nil)))))) t13__law_by_truth
def t11__law_by_truth : Sm := .cons (.frz 5) t12__law_by_truth
def t10__law_by_truth : Sm := .cons (.set 5 (.lst (.cons (.call 75 [0, 1] (.cons (.tup (.cons (.dat (.str "<")) (.cons (.var 12) (.cons (.var 13) .nil)))) (.cons (.var 1) .nil)) .nil) (.cons (.call 75 [0, 1] (.cons (.tup (.cons (.dat (.str "=")) (.cons (.var 12) (.cons (.var 13) .nil)))) (.cons (.var 1) .nil)) .nil) (.cons (.call 75 [0, 1] (.cons (.tup (.cons (.dat (.str "<")) (.cons (.var 13) (.cons (.var 12) .nil)))) (.cons (.var 1) .nil)) .nil) .nil))))) t11__law_by_truth
def t9__law_by_truth : Sm := .cons (.par [12, 13] (.cons (.call 0 [0, 1] (.cons (.var 0) (.cons (.un .len (.var 1)) .nil)) .nil) (.cons (.call 0 [0, 1] (.cons (.var 0) (.cons (.un .len (.var 1)) .nil)) .nil) .nil))) t10__law_by_truth
def t8__law_by_truth : Sm := .cons (.loop (.tp [10, 11]) (.bin .add (.var 3) (.lst (.cons (.lst (.cons (.var 8) (.cons (.var 9) .nil))) .nil))) (.cons (.ifs (.bnot (.call 83 [0, 1, 2] (.cons (.var 10) (.cons (.var 1) (.cons (.var 11) .nil))) .nil)) (.cons (.ret (.dat (.bool false))) .nil) .nil) .nil)) t9__law_by_truth
def t7__law_by_truth : Sm := .cons (.loop (.nm 4) (.rng1 (.bin .sub (.dat (.int 40)) (.call 80 [0] (.cons (.var 8) .nil) .nil))) (.cons (.par [8, 9] (.cons (.tup (.cons (.dat (.str "not")) (.cons (.var 8) .nil))) (.cons (.bnot (.var 9)) .nil))) .nil)) t8__law_by_truth
def t6__law_by_truth : Sm := .cons (.unp [8, 9] (.call 56 [0, 1] (.cons (.var 0) (.cons (.lst (.cons (.lst (.cons (.var 2) (.cons (.var 6) .nil))) (.cons (.lst (.cons (.var 7) (.cons (.bnot (.var 6)) .nil))) .nil))) .nil)) .nil)) t7__law_by_truth
def t5__law_by_truth : Sm := .cons (.ifs (.bin .le (.bin .add (.call 79 [0] (.cons (.var 2) .nil) .nil) (.call 79 [0] (.cons (.var 7) .nil) .nil)) (.dat (.int 4))) (.cons (.set 3 (.bin .add (.var 3) (.lst (.cons (.lst (.cons (.tup (.cons (.dat (.str "and")) (.cons (.var 2) (.cons (.var 7) .nil)))) (.cons (.dat (.bool false)) .nil))) (.cons (.lst (.cons (.tup (.cons (.dat (.str "or")) (.cons (.var 7) (.cons (.var 2) .nil)))) (.cons (.dat (.bool true)) .nil))) (.cons (.lst (.cons (.tup (.cons (.dat (.str "and")) (.cons (.var 2) (.cons (.var 2) .nil)))) (.cons (.var 6) .nil))) .nil)))))) .nil) .nil) t6__law_by_truth
def t4__law_by_truth : Sm := .cons (.frz 3) t5__law_by_truth
def t3__law_by_truth : Sm := .cons (.set 3 (.lst (.cons (.lst (.cons (.var 2) (.cons (.var 6) .nil))) (.cons (.lst (.cons (.tup (.cons (.dat (.str "not")) (.cons (.var 2) .nil))) (.cons (.bnot (.var 6)) .nil))) (.cons (.lst (.cons (.var 7) (.cons (.bnot (.var 6)) .nil))) (.cons (.lst (.cons (.var 2) (.cons (.var 6) .nil))) .nil)))))) t4__law_by_truth
def t2__law_by_truth : Sm := .cons (.ifs (.bin .gt (.call 79 [0] (.cons (.var 7) .nil) .nil) (.dat (.int 4))) (.cons (.set 7 (.call 78 [0, 1] (.cons (.var 2) (.cons (.dat (.bool false)) .nil)) .nil)) .nil) .nil) t3__law_by_truth
def t1__law_by_truth : Sm := .cons (.par [6, 7] (.cons (.call 77 [0, 1] (.cons (.var 2) (.cons (.var 1) .nil)) .nil) (.cons (.call 78 [0, 1] (.cons (.var 2) (.cons (.dat (.bool true)) .nil)) .nil) .nil))) t2__law_by_truth
def t0__law_by_truth : Sm := .cons (.set 2 (.call 76 [0, 1] (.cons (.var 0) (.cons (.call 82 [0, 1] (.cons (.var 0) (.cons (.un .len (.var 1)) .nil)) .nil) .nil)) .nil)) t1__law_by_truth
theorem bt__law_by_truth : b__law_by_truth = t0__law_by_truth := rfl
def t2__law_by_choices_10_1a : Sm := .nil
def t1__law_by_choices_10_1a : Sm := .cons (.set 12 (.tup (.cons (.dat (.str "or")) (.cons (.var 11) (.cons (.tup (.cons (.dat (.str "and")) (.cons (.tup (.cons (.dat (.str "not")) (.cons (.tup (.cons (.bin .idx (.var 9) (.dat (.int 2))) (.cons (.bin .idx (.var 9) (.dat (.int 1))) (.cons (.bin .idx (.var 9) (.dat (.int 3))) .nil)))) .nil))) (.cons (.tup (.cons (.dat (.str "=")) (.cons (.var 10) (.cons (.bin .idx (.var 9) (.dat (.int 5))) .nil)))) .nil)))) .nil))))) t2__law_by_choices_10_1a
def t0__law_by_choices_10_1a : Sm := .cons (.set 11 (.tup (.cons (.dat (.str "and")) (.cons (.bin .add (.slc (.var 9) (.dat (.int 2)) (.dat (.int 3))) (.tup (.cons (.bin .idx (.var 9) (.dat (.int 1))) (.cons (.bin .idx (.var 9) (.dat (.int 3))) .nil)))) (.cons (.tup (.cons (.dat (.str "=")) (.cons (.bin .idx (.var 9) (.dat (.int 4))) (.cons (.var 10) .nil)))) .nil))))) t1__law_by_choices_10_1a
def t3__law_by_choices_10 : Sm := .nil
def t2__law_by_choices_10 : Sm := .cons (.ifs (.bor (.bnot (.call 83 [0, 1, 2] (.cons (.var 12) (.cons (.var 6) (.cons (.dat (.bool true)) .nil))) .nil)) (.bnot (.call 83 [0, 1, 2] (.cons (.tup (.cons (.dat (.str "not")) (.cons (.var 12) .nil))) (.cons (.var 6) (.cons (.dat (.bool false)) .nil))) .nil))) (.cons (.ret (.dat (.bool false))) .nil) .nil) t3__law_by_choices_10
def t1__law_by_choices_10 : Sm := .cons (.ifs (.bin .eq (.bin .idx (.var 9) (.dat (.int 0))) (.dat (.str "choice"))) t0__law_by_choices_10_1a (.cons (.ifs (.bin .inn (.bin .idx (.var 9) (.dat (.int 0))) (.tup (.cons (.dat (.str "greatest")) (.cons (.dat (.str "least")) .nil)))) (.cons (.set 14 (.ife (.bin .eq (.bin .idx (.var 9) (.dat (.int 0))) (.dat (.str "least"))) (.lst (.cons (.tup (.cons (.var 10) (.cons (.bin .idx (.var 9) (.dat (.int 1))) .nil))) (.cons (.tup (.cons (.var 10) (.cons (.bin .idx (.var 9) (.dat (.int 2))) .nil))) .nil))) (.lst (.cons (.tup (.cons (.bin .idx (.var 9) (.dat (.int 1))) (.cons (.var 10) .nil))) (.cons (.tup (.cons (.bin .idx (.var 9) (.dat (.int 2))) (.cons (.var 10) .nil))) .nil))))) (.cons (.set 12 (.tup (.cons (.dat (.str "and")) (.cons (.bin .add (.tup (.cons (.dat (.str "<=")) .nil)) (.bin .idx (.var 14) (.dat (.int 0)))) (.cons (.bin .add (.tup (.cons (.dat (.str "<=")) .nil)) (.bin .idx (.var 14) (.dat (.int 1)))) .nil))))) (.cons (.set 12 (.tup (.cons (.dat (.str "and")) (.cons (.var 12) (.cons (.tup (.cons (.dat (.str "or")) (.cons (.tup (.cons (.dat (.str "=")) (.cons (.bin .idx (.var 9) (.dat (.int 1))) (.cons (.var 10) .nil)))) (.cons (.tup (.cons (.dat (.str "=")) (.cons (.bin .idx (.var 9) (.dat (.int 2))) (.cons (.var 10) .nil)))) .nil)))) .nil))))) .nil))) (.cons (.set 12 (.tup (.cons (.dat (.str "not")) (.cons (.tup (.cons (.dat (.str "<")) (.cons (.var 10) (.cons (.var 10) .nil)))) .nil)))) .nil)) .nil)) t2__law_by_choices_10
def t0__law_by_choices_10 : Sm := .cons (.set 10 (.bin .add (.var 7) (.var 8))) t1__law_by_choices_10
def t12__law_by_choices : Sm := .nil
def t11__law_by_choices : Sm := .cons (.ret (.call 84 [0, 1] (.cons (.var 0) (.cons (.var 6) .nil)) .nil)) t12__law_by_choices
def t10__law_by_choices : Sm := .cons (.loop (.tp [8, 9]) (.enu (.var 2)) t0__law_by_choices_10) t11__law_by_choices
def t9__law_by_choices : Sm := .cons (.ifs (.bin .ne (.un .repr (.var 6)) (.un .repr (.call 63 [0, 1, 2] (.cons (.var 2) (.cons (.var 4) (.cons (.var 5) .nil))) .nil))) (.cons (.ret (.dat (.bool false))) .nil) .nil) t10__law_by_choices
def t8__law_by_choices : Sm := .cons (.set 6 (.call 55 [0, 1, 2] (.cons (.var 2) (.cons (.var 4) (.cons (.var 5) .nil))) .nil)) t9__law_by_choices
def t7__law_by_choices : Sm := .cons (.set 5 (.call 56 [0, 1] (.cons (.var 0) (.cons (.lst (.cons (.tup (.cons (.dat (.int 0)) (.cons (.dat (.int 1)) .nil))) (.cons (.var 3) (.cons (.tup (.cons (.un .neg (.dat (.int 1))) (.cons (.dat (.int 2)) .nil))) .nil)))) .nil)) .nil)) t8__law_by_choices
def t6__law_by_choices : Sm := .cons (.set 4 (.un .tuple (.cmp [13] (.call 56 [0, 1] (.cons (.var 0) (.cons (.lst (.cons (.var 3) (.cons (.var 3) (.cons (.call 17 [0, 1, 2] (.cons (.var 0) (.cons (.dat (.int 6)) (.cons (.dat (.int 3)) .nil))) .nil) .nil)))) .nil)) .nil) (.nm 13) (.rng1 (.var 7)) .no))) t7__law_by_choices
def t5__law_by_choices : Sm := .cons (.set 3 (.call 17 [0, 1, 2] (.cons (.var 0) (.cons (.dat (.int 6)) (.cons (.dat (.int 3)) .nil))) .nil)) t6__law_by_choices
def t4__law_by_choices : Sm := .cons (.set 2 (.call 62 [0, 1, 2] (.cons (.var 0) (.cons (.var 7) (.cons (.var 1) .nil))) .nil)) t5__law_by_choices
def t3__law_by_choices : Sm := .cons (.frz 1) t4__law_by_choices
def t2__law_by_choices : Sm := .cons (.set 1 (.bin .add (.lst (.cons (.call 56 [0, 1] (.cons (.var 0) (.cons (.lst (.cons (.dat (.str "sum")) (.cons (.dat (.str "shift")) .nil))) .nil)) .nil) .nil)) (.slc (.var 1) (.call 0 [0, 1] (.cons (.var 0) (.cons (.dat (.int 3)) .nil)) .nil) .no))) t3__law_by_choices
def t1__law_by_choices : Sm := .cons (.frz 1) t2__law_by_choices
def t0__law_by_choices : Sm := .cons (.par [7, 1] (.cons (.bin .add (.dat (.int 1)) (.call 0 [0, 1] (.cons (.var 0) (.cons (.dat (.int 3)) .nil)) .nil)) (.cons (.lst (.cons (.dat (.str "greatest")) (.cons (.dat (.str "least")) (.cons (.dat (.str "choice")) (.cons (.dat (.str "choice")) .nil))))) .nil))) t1__law_by_choices
theorem bt__law_by_choices : b__law_by_choices = t0__law_by_choices := rfl
def t7_law : Sm := .nil
def t6_law : Sm := .cons (.ret (.bin .eq (.un .repr (.bin .add (.var 4) (.lst (.cons (.call 75 [0, 1] (.cons (.tup (.cons (.dat (.str "and")) (.cons (.tup (.cons (.dat (.str "<=")) (.cons (.dat (.int 1)) (.cons (.dat (.int 1)) .nil)))) (.cons (.tup (.cons (.dat (.str "<")) (.cons (.dat (.int 1)) (.cons (.dat (.int 1)) .nil)))) .nil)))) (.cons (.var 3) .nil)) .nil) .nil)))) (.un .repr (.lst (.cons (.dat (.bool true)) (.cons (.dat (.bool false)) (.cons (.dat (.bool true)) (.cons (.dat (.bool false)) .nil)))))))) t7_law
def t5_law : Sm := .cons (.set 4 (.bin .add (.var 4) (.lst (.cons (.call 75 [0, 1] (.cons (.tup (.cons (.dat (.str "or")) (.cons (.tup (.cons (.dat (.str "=")) (.cons (.dat (.int 0)) (.cons (.dat (.int 1)) .nil)))) (.cons (.tup (.cons (.dat (.str "not")) (.cons (.tup (.cons (.dat (.str "=")) (.cons (.dat (.int 0)) (.cons (.dat (.int 1)) .nil)))) .nil))) .nil)))) (.cons (.var 3) .nil)) .nil) .nil)))) t6_law
def t4_law : Sm := .cons (.frz 4) t5_law
def t3_law : Sm := .cons (.set 4 (.lst (.cons (.call 75 [0, 1] (.cons (.tup (.cons (.dat (.str "<")) (.cons (.dat (.int 0)) (.cons (.dat (.int 1)) .nil)))) (.cons (.var 3) .nil)) .nil) (.cons (.call 75 [0, 1] (.cons (.tup (.cons (.dat (.str "<=")) (.cons (.dat (.int 1)) (.cons (.dat (.int 0)) .nil)))) (.cons (.var 3) .nil)) .nil) .nil)))) t4_law
def t2_law : Sm := .cons (.set 3 (.tup (.cons (.tup (.cons (.dat (.int 1)) (.cons (.dat (.int 2)) .nil))) (.cons (.tup (.cons (.dat (.int 2)) (.cons (.dat (.int 3)) .nil))) .nil)))) t3_law
def t1_law : Sm := .cons (.loop (.nm 2) (.rng1 (.dat (.int 2))) (.cons (.ifs (.bnot (.call 85 [0] (.cons (.var 1) .nil) .nil)) (.cons (.ret (.dat (.bool false))) .nil) .nil) .nil)) t2_law
def t0_law : Sm := .cons (.loop (.nm 2) (.rng1 (.dat (.int 6))) (.cons (.ifs (.bnot (.call 84 [0, 1] (.cons (.var 1) (.cons (.call 81 [0] (.cons (.var 1) .nil) .nil) .nil)) .nil)) (.cons (.ret (.dat (.bool false))) .nil) .nil) .nil)) t1_law
theorem bt_law : b_law = t0_law := rfl
end Lk47
end
section
/-! k47: the law's own looks at sayings. -/
namespace Lk47
open PySem Un Pg Fd
theorem e_fraction : Lk47.F__law_fraction = Fd.F__law_fraction := by with_unfolding_all rfl
theorem e_line : Lk47.F__law_line = Fd.F__law_line := by with_unfolding_all rfl
theorem e_program : Lk47.F__law_program = Fd.F__law_program := by with_unfolding_all rfl
theorem e_walk : Lk47.F__law_walk = Lk46.F__law_walk := by with_unfolding_all rfl
section
variable {k : KA} {x : KX}
theorem truth_ok {vs : List Rat} {b : Nat} (hv : ∀ q ∈ vs, Bd b q) (hb : b ≤ 4000) : ∀ (s : Sy) {m : Nat} {k : KA} {x : KX}, s.dep ≤ m → s.ok vs.length → k (.d (.bool (s.tr vs))) → F__law_truth m [.d s.dat, .d (PT vs)] k x
  | s, 0, k, x, h, _, _ => by
    cases s <;> simp [Sy.dep] at h
  | .cmp w i j, m + 1, k, x, h, ho, hk => by
    rw [F__law_truth_s]
    simp [runF, bt__law_truth, t0__law_truth, Sy.dat, cw_not]
    simp [t1__law_truth, szl]
    refine inn_b rfl (cw_in2 w) ?_
    simp [t2__law_truth, idx2]
    refine vg_t ho.1 ?_
    simp [idx2]
    refine vg_t ho.2 ?_
    simp [fe__law_truth]
    have hk : k (.d (.bool (w.so (vg vs i) (vg vs j)))) := hk
    exact is_true_ok (hv _ (vg_mem ho.1)) (hv _ (vg_mem ho.2)) (by omega) (by simpa using hk)
  | .not a, m + 1, k, x, h, ho, hk => by
    rw [F__law_truth_s]
    simp [runF, bt__law_truth, t0__law_truth, Sy.dat, fe__law_truth]
    refine truth_ok hv hb a (by simp only [Sy.dep] at h; omega) ho ?_
    have hk : k (.d (.bool (!a.tr vs))) := hk
    cases e : a.tr vs <;> rw [e] at hk <;> simpa using hk
  | .and a c, m + 1, k, x, h, ho, hk => by
    have h1 : a.dep ≤ m ∧ c.dep ≤ m := by simp only [Sy.dep] at h; omega
    rw [F__law_truth_s]
    simp [runF, bt__law_truth, t0__law_truth, Sy.dat]
    simp [t1__law_truth, szl]
    refine inn_b rfl (b := true) (by decide) ?_
    simp [t0__law_truth_1a, fe__law_truth, idx2]
    refine truth_ok hv hb a h1.1 ho.1 ?_
    simp [idx2]
    refine truth_ok hv hb c h1.2 ho.2 ?_
    simp [t1__law_truth_1a]
    have hk : k (.d (.bool (a.tr vs && c.tr vs))) := hk
    cases e : a.tr vs <;> cases e2 : c.tr vs <;> rw [e, e2] at hk <;> simpa using hk
  | .or a c, m + 1, k, x, h, ho, hk => by
    have h1 : a.dep ≤ m ∧ c.dep ≤ m := by simp only [Sy.dep] at h; omega
    rw [F__law_truth_s]
    simp [runF, bt__law_truth, t0__law_truth, Sy.dat]
    simp [t1__law_truth, szl]
    refine inn_b rfl (b := true) (by decide) ?_
    simp [t0__law_truth_1a, fe__law_truth, idx2]
    refine truth_ok hv hb a h1.1 ho.1 ?_
    simp [idx2]
    refine truth_ok hv hb c h1.2 ho.2 ?_
    simp [t1__law_truth_1a]
    have hk : k (.d (.bool (a.tr vs || c.tr vs))) := hk
    cases e : a.tr vs <;> cases e2 : c.tr vs <;> rw [e, e2] at hk <;> simpa using hk
theorem contrary_ok (sp : Bool) : ∀ (s : Sy) {m : Nat} {k : KA} {x : KX}, s.dep ≤ m → k (.d (s.con sp).dat) → F__law_contrary m [.d s.dat, .d (.bool sp)] k x
  | s, 0, k, x, h, _ => by
    cases s <;> simp [Sy.dep] at h
  | .cmp w i j, m + 1, k, x, h, hk => by
    rw [F__law_contrary_s]
    simp [runF, bt__law_contrary, t0__law_contrary, Sy.dat]
    simp [t1__law_contrary, cw_not]
    simp [t2__law_contrary, szl]
    refine inn_b rfl (cw_in2 w) ?_
    simp
    have hne1 : ((("<" : Str) = "=") = False) := eq_false (by decide)
    have hne2 : ((("<=" : Str) = "=") = False) := eq_false (by decide)
    have hne3 : ((("<=" : Str) = "<") = False) := eq_false (by decide)
    cases w with
    | lt =>
      simp [t3__law_contrary, t4__law_contrary, Cw.str, hne1, idx2, szl]
      exact hk
    | le =>
      simp [t3__law_contrary, t4__law_contrary, Cw.str, hne2, hne3, idx2, szl]
      exact hk
    | eq =>
      cases sp with
      | true =>
        simp [t3__law_contrary, Cw.str, idx2, szl]
        exact hk
      | false =>
        simp [t3__law_contrary, Cw.str, idx2, szl]
        exact hk
  | .not a, m + 1, k, x, h, hk => by
    rw [F__law_contrary_s]
    simp [runF, bt__law_contrary, t0__law_contrary, Sy.dat]
    simp [t1__law_contrary]
    exact hk
  | .and a c, m + 1, k, x, h, hk => by
    have h1 : a.dep ≤ m ∧ c.dep ≤ m := by simp only [Sy.dep] at h; omega
    rw [F__law_contrary_s]
    simp [runF, bt__law_contrary, t0__law_contrary, Sy.dat]
    simp [t1__law_contrary]
    simp [t2__law_contrary, szl]
    refine inn_b rfl (b := true) (by decide) ?_
    simp [fe__law_contrary, idx2]
    refine contrary_ok sp a h1.1 ?_
    simp [idx2]
    refine contrary_ok sp c h1.2 ?_
    simp [szl]
    exact hk
  | .or a c, m + 1, k, x, h, hk => by
    have h1 : a.dep ≤ m ∧ c.dep ≤ m := by simp only [Sy.dep] at h; omega
    rw [F__law_contrary_s]
    simp [runF, bt__law_contrary, t0__law_contrary, Sy.dat]
    simp [t1__law_contrary]
    simp [t2__law_contrary, szl]
    refine inn_b rfl (b := true) (by decide) ?_
    simp [fe__law_contrary, idx2]
    refine contrary_ok sp a h1.1 ?_
    simp [idx2]
    refine contrary_ok sp c h1.2 ?_
    simp [szl]
    exact hk
theorem many_ok : ∀ (s : Sy) {m : Nat} {k : KA} {x : KX}, s.dep ≤ m → k (.d (.int s.many)) → F__law_many m [.d s.dat] k x
  | s, 0, k, x, h, _ => by
    cases s <;> simp [Sy.dep] at h
  | .cmp w i j, m + 1, k, x, h, hk => by
    rw [F__law_many_s]
    simp [runF, bt__law_many, t0__law_many, Sy.dat, cw_not]
    simp [t1__law_many, szl]
    refine inn_b rfl (cw_in2 w) ?_
    simp
    exact hk
  | .not a, m + 1, k, x, h, hk => by
    rw [F__law_many_s]
    simp [runF, bt__law_many, t0__law_many, Sy.dat, fe__law_many]
    have hk : k (.d (.int a.many)) := hk
    exact many_ok a (by simp only [Sy.dep] at h; omega) (by simpa using hk)
  | .and a c, m + 1, k, x, h, hk => by
    have h1 : a.dep ≤ m ∧ c.dep ≤ m := by simp only [Sy.dep] at h; omega
    rw [F__law_many_s]
    simp [runF, bt__law_many, t0__law_many, Sy.dat]
    simp [t1__law_many, szl]
    refine inn_b rfl (b := true) (by decide) ?_
    simp [fe__law_many, idx2]
    refine many_ok a h1.1 ?_
    try simp [idx2]
    refine many_ok c h1.2 ?_
    have hk : k (.d (.int ((a.many + c.many : Nat) : Int))) := hk
    simpa using hk
  | .or a c, m + 1, k, x, h, hk => by
    have h1 : a.dep ≤ m ∧ c.dep ≤ m := by simp only [Sy.dep] at h; omega
    rw [F__law_many_s]
    simp [runF, bt__law_many, t0__law_many, Sy.dat]
    simp [t1__law_many, szl]
    refine inn_b rfl (b := true) (by decide) ?_
    simp [fe__law_many, idx2]
    refine many_ok a h1.1 ?_
    try simp [idx2]
    refine many_ok c h1.2 ?_
    have hk : k (.d (.int ((a.many + c.many : Nat) : Int))) := hk
    simpa using hk
theorem max_nat (a b : Nat) : b3 .max (a : Int) (b : Int) = ((max a b : Nat) : Int) := by
  simp only [b3]
  split <;> omega
theorem deep_ok : ∀ (s : Sy) {m : Nat} {k : KA} {x : KX}, s.dep ≤ m → k (.d (.int s.dep)) → F__law_deep m [.d s.dat] k x
  | s, 0, k, x, h, _ => by
    cases s <;> simp [Sy.dep] at h
  | .cmp w i j, m + 1, k, x, h, hk => by
    rw [F__law_deep_s]
    simp [runF, bt__law_deep, t0__law_deep, Sy.dat, cw_not]
    simp [t1__law_deep, szl]
    refine inn_b rfl (cw_in2 w) ?_
    simp
    exact hk
  | .not a, m + 1, k, x, h, hk => by
    rw [F__law_deep_s]
    simp [runF, bt__law_deep, t0__law_deep, Sy.dat, fe__law_deep]
    refine deep_ok a (by simp only [Sy.dep] at h; omega) ?_
    have e : (1 : Int) + (a.dep : Int) = (((Sy.not a).dep : Nat) : Int) := by simp only [Sy.dep]; omega
    simp only [add_int, leave_d]
    rw [e]
    exact hk
  | .and a c, m + 1, k, x, h, hk => by
    have h1 : a.dep ≤ m ∧ c.dep ≤ m := by simp only [Sy.dep] at h; omega
    rw [F__law_deep_s]
    simp [runF, bt__law_deep, t0__law_deep, Sy.dat]
    simp [t1__law_deep, szl]
    refine inn_b rfl (b := true) (by decide) ?_
    simp [fe__law_deep, idx2]
    refine deep_ok a h1.1 ?_
    try simp [idx2]
    refine deep_ok c h1.2 ?_
    have e : (1 : Int) + b3 .max (a.dep : Int) (c.dep : Int) = (((Sy.and a c).dep : Nat) : Int) := by rw [max_nat]; simp only [Sy.dep]; omega
    simp only [f3_int, add_int, leave_d]
    rw [e]
    exact hk
  | .or a c, m + 1, k, x, h, hk => by
    have h1 : a.dep ≤ m ∧ c.dep ≤ m := by simp only [Sy.dep] at h; omega
    rw [F__law_deep_s]
    simp [runF, bt__law_deep, t0__law_deep, Sy.dat]
    simp [t1__law_deep, szl]
    refine inn_b rfl (b := true) (by decide) ?_
    simp [fe__law_deep, idx2]
    refine deep_ok a h1.1 ?_
    try simp [idx2]
    refine deep_ok c h1.2 ?_
    have e : (1 : Int) + b3 .max (a.dep : Int) (c.dep : Int) = (((Sy.or a c).dep : Nat) : Int) := by rw [max_nat]; simp only [Sy.dep]; omega
    simp only [f3_int, add_int, leave_d]
    rw [e]
    exact hk
end
end Lk47
end
section
/-! k47: sayings drawn; whether holds tells what is due. -/
namespace Lk47
open PySem Un Pg Fd
section
variable {k : KA} {x : KX}
@[simp] theorem add_ss {a b : Str} : w2 .add (.d (.str a)) (.d (.str b)) k ↔ a.length + b.length ≤ sizeLine ∧ k (.d (.str (a ++ b))) := ⟨fun ⟨_, _, h1, h2, h⟩ => by cases h1; cases h2; exact h, fun h => ⟨_, _, rfl, rfl, h⟩⟩
structure Tok (n d c : Nat) (s : Sy) : Prop where
  ok : s.ok n
  dep : s.dep ≤ d
  len : s.len ≤ c
theorem is_told_ok {vs : List Rat} {s : Sy} (hv : ∀ q ∈ vs, Bd 1900 q) (hl : vs.length ≤ 30) (h : Tok vs.length 45 100000 s) (hk : k (.d (.bool true))) : F__law_is_told [.d s.dat, .d (PT vs), .d (.bool (s.tr vs))] k x := by
  have s1 := sy_sw (n := vs.length) (by omega) h.ok
  have s2 : Sw 120000 2 (PT vs) := (Sw.pt (b := 1900) (m := 30) hv (by decide) hl).mono (by decide) (by decide)
  have o1 : ShowOk s.dat := s1.ok (Nat.le_trans h.len (by decide)) (Nat.le_trans h.dep (by decide))
  have o2 : ShowOk (PT vs) := s2.ok (by decide) (by decide)
  have o3 : s.dat.shown.length + (PT vs).shown.length ≤ sizeLine := by
    have h1 := s1.ln
    have h2 := s2.ln
    have h3 := h.len
    rw [sizeLine_eq]
    omega
  have hh : ∀ {kk : KA} {xx : KX}, kk (.d (.bool (s.tr vs))) → F_holds 50 [.d s.dat, .d (PT vs)] kk xx := fun {kk xx} hk => holds_ok hv (by decide) s (by have := h.dep; omega) h.ok hk
  simp [F__law_is_told, runF, bt__law_is_told, t0__law_is_told]
  refine ⟨o1, o2, o3, ?_⟩
  simp [t1__law_is_told, fe__law_is_told]
  refine hh ?_
  simp
  refine hh ?_
  simp [szl]
  simp [t2__law_is_told]
  simp [t3__law_is_told, szl]
  have o4 : ∀ b : Bool, ShowOk (.list [.bool b, .bool b]) := fun b => by
    have sb : Sw 20 0 (.bool b) := by cases b <;> constructor <;> decide +kernel
    exact (Sw.list (n := 20) (e := 0) (m := 2) (fun d hd => by
      simp at hd
      rw [hd]
      exact sb) (by simp)).ok (by decide) (by decide)
  exact ⟨o4 _, o1, o2, o3, hk⟩
/-! ### leaves -/
theorem leaves_ok {n : Nat} (h0 : 1 ≤ n) (h1 : n ≤ 1000) (hk : ∀ Ls : List Sy, 1 ≤ Ls.length → Ls.length ≤ 4 → (∀ s ∈ Ls, Tok n 1 4000 s) → k (.new (Ls.map Sy.dat))) : F__law_leaves [.src, .d (.int n)] k x := by
  simp [F__law_leaves, runF, bt__law_leaves, t0__law_leaves, szl]
  rw [t1__law_leaves, x_cons, x_loop]
  simp [fe__law_leaves]
  refine draw_ok (by decide) (by decide) fun r hr0 hr1 => ?_
  obtain ⟨m, rfl⟩ : ∃ m : Nat, r = m := ⟨r.toNat, by omega⟩
  simp [RngOk]
  refine ⟨by omega, ?_⟩
  have em : ((1 : Int) + (m : Int)).toNat = m + 1 := by omega
  rw [em]
  let I : Nat → List SV → Prop := fun i ρ => ∃ (Ls : List Sy) (u : SV), ρ = [.src, .d (.int n), .own (Ls.map Sy.dat), u] ∧ Ls.length = i ∧ ∀ s ∈ Ls, Tok n 1 4000 s
  refine loop_inv I (i := 0) ⟨[], _, rfl, rfl, fun _ h => nomatch h⟩ (fun i y ρ hy hI => ?_) fun ρ hI => ?_
  · obtain ⟨Ls, u, rfl, hl, hs⟩ := hI
    rw [Nat.zero_add] at *
    obtain ⟨hi, rfl⟩ := rng_get hy
    refine ⟨_, rfl, fun kf hkf => ?_⟩
    simp [fe__law_leaves, szl]
    refine pick_ok (by simp) (by simp) fun y hy => ?_
    obtain ⟨w, rfl⟩ : ∃ w : Cw, y = .str w.str := by
      simp at hy
      rcases hy with rfl | rfl | rfl
      · exact ⟨.lt, rfl⟩
      · exact ⟨.le, rfl⟩
      · exact ⟨.eq, rfl⟩
    simp
    refine draw_ok (by omega) (by omega) fun a ha0 ha1 => ?_
    obtain ⟨a, rfl⟩ : ∃ z : Nat, a = z := ⟨a.toNat, by omega⟩
    simp
    refine draw_ok (by omega) (by omega) fun b hb0 hb1 => ?_
    obtain ⟨b, rfl⟩ : ∃ z : Nat, b = z := ⟨b.toNat, by omega⟩
    simp [szl]
    refine ⟨Nat.lt_of_lt_of_le (show Ls.length < 1000 by omega) (sz 1000 (by decide)), ?_⟩
    refine hkf _ ⟨Ls ++ [.cmp w a b], _, by rw [List.map_append]; rfl, by simp; omega, fun s hs' => ?_⟩
    rcases List.mem_append.mp hs' with h | h
    · exact hs s h
    · rw [List.mem_singleton.mp h]
      exact ⟨⟨by omega, by omega⟩, Nat.le_refl _, Nat.le_refl _⟩
  · obtain ⟨Ls, u, rfl, hl, hs⟩ := hI
    rw [rngL_length, Nat.zero_add] at hl
    simp [t2__law_leaves]
    exact hk Ls (by omega) (by omega) hs
end
end Lk47
end
section
/-! k47: trees of sayings drawn; numbers drawn. -/
namespace Lk47
open PySem Un Pg Fd
section
variable {k : KA} {x : KX}
/-- a list of data that a slot holds, fixed or not -/
def Hd (r : SV) (L : List PyData) : Prop := r = .d (.list L) ∨ r = .own L
theorem two_of {L : List Sy} {a : Nat} (h : a + 1 < L.length) : ∃ A p q B, L = A ++ p :: q :: B ∧ A.length = a := by
  refine ⟨L.take a, L[a], L[a + 1], L.drop (a + 2), ?_, by simp; omega⟩
  rw [← List.drop_eq_getElem_cons (by omega), ← List.drop_eq_getElem_cons (by omega), List.take_append_drop]
def sumL (L : List Sy) : Nat := (L.map Sy.len).sum
theorem sum_app (A B : List Sy) : sumL (A ++ B) = sumL A + sumL B := by simp [sumL]
@[simp] theorem slc_b {xs : List PyData} {a b} : slcW (.bor xs) a b k ↔ k (.new (cut xs a b)) := ⟨fun ⟨_, h1, h⟩ => by cases h1; exact h, fun h => ⟨_, rfl, h⟩⟩
theorem get_mid {α : Type} (f : Sy → α) (A : List Sy) (p q : Sy) (B : List Sy) : ((A ++ p :: q :: B).map f)[A.length]? = some (f p) ∧ ((A ++ p :: q :: B).map f)[A.length + 1]? = some (f q) := by
  constructor
  · simp
  · rw [List.getElem?_map, List.getElem?_append_right (by omega)]
    simp
theorem cut_mid (A : List Sy) (p q : Sy) (B : List Sy) : cut ((A ++ p :: q :: B).map Sy.dat) none (some (A.length : Int)) = A.map Sy.dat ∧ cut ((A ++ p :: q :: B).map Sy.dat) (some ((A.length : Int) + 2)) none = B.map Sy.dat := by
  constructor
  · rw [cut_to _ _ (by simp)]
    simp
  · have e : (A.length : Int) + 2 = ((A.length + 2 : Nat) : Int) := by omega
    rw [e, cut_from _ _ (by simp), ← List.map_drop]
    congr 1
    rw [List.drop_append]
    simp
theorem choose_all {P : Sy → Prop} : ∀ {ys : List PyData}, (∀ y ∈ ys, ∃ s : Sy, P s ∧ y = s.dat) → ∃ L : List Sy, ys = L.map Sy.dat ∧ ∀ s ∈ L, P s
  | [], _ => ⟨[], rfl, fun _ h => nomatch h⟩
  | y :: ys, h => by
    obtain ⟨q, hq, rfl⟩ := h y (List.mem_cons_self ..)
    obtain ⟨l, rfl, hl⟩ := choose_all fun z hz => h z (List.mem_cons_of_mem _ hz)
    exact ⟨q :: l, rfl, fun r hr => by
      rcases List.mem_cons.mp hr with rfl | hr
      · exact hq
      · exact hl r hr⟩
theorem tree_step {n t S : Nat} {L : List Sy} {u v r2 : SV} {p0 : PyData} {z : SV} {kf : KF} (hr : Hd r2 (L.map Sy.dat)) (h2 : 2 ≤ L.length) (h3 : L.length ≤ 100) (hL : ∀ s ∈ L, s.ok n ∧ s.dep ≤ 2 + 2 * t) (hS : sumL L ≤ S)
    (hk : ∀ (L' : List Sy) (v' w' : SV), L'.length + 1 = L.length → (∀ s ∈ L', s.ok n ∧ s.dep ≤ 2 + 2 * (t + 1)) → sumL L' ≤ S + 120 → kf (.nx [.src, .d p0, .own (L'.map Sy.dat), u, v, v', w', z])) :
    ∀ y5 y6 : SV, ex fe__law_tree x t0__law_tree_2 [.src, .d p0, r2, u, v, y5, y6, z] kf := by
  intro y5 y6
  have two : ∀ {kk : KA} {xx : KX}, (∀ a : Nat, a + 1 < L.length → kk (.d (.int a))) → drawW [.src, .d (.int ((L.length : Int) - 1))] kk xx := fun {kk xx} h => draw_ok (by omega) (by omega) fun r h0 h1 => by
    obtain ⟨a, rfl⟩ : ∃ a : Nat, r = a := ⟨r.toNat, by omega⟩
    exact h a (by omega)
  have main : ∀ a : Nat, a + 1 < L.length → ∀ (vv : (i : Nat) → KA → Prop), True → True := fun _ _ _ _ => trivial
  have fin : ∀ (a : Nat) (A B : List Sy) (p q both z' : Sy), L = A ++ p :: q :: B → (both = .and p q ∨ both = .or p q) → (z' = both ∨ z' = .not both) → ∀ v' w', kf (.nx [.src, .d p0, .own (A.map Sy.dat ++ [z'.dat] ++ B.map Sy.dat), u, v, v', w', z]) := fun a A B p q both z' e hb hz v' w' => by
    have hp := hL p (by rw [e]; simp)
    have hq := hL q (by rw [e]; simp)
    have hbt : both.ok n ∧ both.dep ≤ 3 + 2 * t ∧ both.len = p.len + q.len + 60 := by
      rcases hb with rfl | rfl
      · exact ⟨⟨hp.1, hq.1⟩, by simp only [Sy.dep]; omega, rfl⟩
      · exact ⟨⟨hp.1, hq.1⟩, by simp only [Sy.dep]; omega, rfl⟩
    have hzt : z'.ok n ∧ z'.dep ≤ 4 + 2 * t ∧ z'.len ≤ p.len + q.len + 120 := by
      rcases hz with rfl | rfl
      · exact ⟨hbt.1, by omega, by omega⟩
      · refine ⟨hbt.1, ?_, ?_⟩
        · have := hbt.2.1
          simp only [Sy.dep]
          omega
        · have := hbt.2.2
          simp only [Sy.len]
          omega
    have e2 : A.map Sy.dat ++ [z'.dat] ++ B.map Sy.dat = (A ++ [z'] ++ B).map Sy.dat := by simp
    rw [e2]
    refine hk _ v' w' (by rw [e]; simp; omega) (fun s hs => ?_) ?_
    · rcases List.mem_append.mp hs with hs | hs
      · rcases List.mem_append.mp hs with hs | hs
        · have := hL s (by rw [e]; simp [hs])
          exact ⟨this.1, by omega⟩
        · rw [List.mem_singleton.mp hs]
          exact ⟨hzt.1, by have := hzt.2.1; omega⟩
      · have := hL s (by rw [e]; simp [hs])
        exact ⟨this.1, by omega⟩
    · rw [e, sum_app] at hS
      rw [sum_app, sum_app]
      have := hzt.2.2
      simp only [sumL, List.map_cons, List.sum_cons, List.map_nil, List.sum_nil] at hS ⊢
      omega
  have hsz : ∀ (A B : List Sy) (p q : Sy), L = A ++ p :: q :: B → A.length + B.length + 2 ≤ 100 := fun A B p q e => by
    rw [e] at h3
    simp at h3
    omega
  rcases hr with rfl | rfl
  · simp [t0__law_tree_2, fe__law_tree]
    refine two fun a ha => ?_
    obtain ⟨A, p, q, B, e, rfl⟩ := two_of ha
    have hs := hsz A B p q e
    obtain ⟨g1, g2⟩ := get_mid Sy.dat A p q B
    obtain ⟨c1, c2⟩ := cut_mid A p q B
    simp only [List.map_append, List.map_cons] at g1 g2 c1 c2
    have e1 : (A.length : Int) + 1 = ((A.length + 1 : Nat) : Int) := by omega
    simp [t1__law_tree_2, fe__law_tree, szl]
    refine pick_ok (by simp) (by simp) fun y hy => ?_
    obtain ⟨o, rfl, ho⟩ : ∃ o : Str, y = .str o ∧ (o = "and" ∨ o = "or") := by
      simp at hy
      rcases hy with rfl | rfl
      · exact ⟨_, rfl, .inl rfl⟩
      · exact ⟨_, rfl, .inr rfl⟩
    obtain ⟨both, hb, eb⟩ : ∃ both, (both = Sy.and p q ∨ both = Sy.or p q) ∧ both.dat = .tuple [.str o, p.dat, q.dat] := by
      rcases ho with rfl | rfl
      · exact ⟨_, .inl rfl, rfl⟩
      · exact ⟨_, .inr rfl, rfl⟩
    simp
    rw [e]
    simp only [List.map_append, List.map_cons]
    refine idx_l g1 ?_
    simp
    rw [e1]
    refine idx_l g2 ?_
    simp [szl]
    rw [← eb]
    simp [t2__law_tree_2, fe__law_tree]
    refine draw_ok (by decide) (by decide) fun r hr0 hr1 => ?_
    have fin2 := fun z' hz => fin A.length A B p q both z' e hb hz
    rw [c1]
    simp
    split
    · simp [szl]
      refine Lk46.cat_nn (by simp; omega) ?_
      rw [c2]
      refine Lk46.cat_nn (by simp; omega) ?_
      simp
      have := fin2 (.not both) (.inr rfl) (.d (.int A.length)) (.d both.dat)
      simpa [Sy.dat, t3__law_tree_2] using this
    · simp [szl]
      refine Lk46.cat_nn (by simp; omega) ?_
      rw [c2]
      refine Lk46.cat_nn (by simp; omega) ?_
      simp
      have := fin2 both (.inl rfl) (.d (.int A.length)) (.d both.dat)
      simpa [t3__law_tree_2] using this
  · simp [t0__law_tree_2, fe__law_tree]
    refine two fun a ha => ?_
    obtain ⟨A, p, q, B, e, rfl⟩ := two_of ha
    have hs := hsz A B p q e
    obtain ⟨g1, g2⟩ := get_mid Sy.dat A p q B
    obtain ⟨c1, c2⟩ := cut_mid A p q B
    simp only [List.map_append, List.map_cons] at g1 g2 c1 c2
    have e1 : (A.length : Int) + 1 = ((A.length + 1 : Nat) : Int) := by omega
    simp [t1__law_tree_2, fe__law_tree, szl]
    refine pick_ok (by simp) (by simp) fun y hy => ?_
    obtain ⟨o, rfl, ho⟩ : ∃ o : Str, y = .str o ∧ (o = "and" ∨ o = "or") := by
      simp at hy
      rcases hy with rfl | rfl
      · exact ⟨_, rfl, .inl rfl⟩
      · exact ⟨_, rfl, .inr rfl⟩
    obtain ⟨both, hb, eb⟩ : ∃ both, (both = Sy.and p q ∨ both = Sy.or p q) ∧ both.dat = .tuple [.str o, p.dat, q.dat] := by
      rcases ho with rfl | rfl
      · exact ⟨_, .inl rfl, rfl⟩
      · exact ⟨_, .inr rfl, rfl⟩
    simp
    rw [e]
    simp only [List.map_append, List.map_cons]
    refine idx_b g1 ?_
    simp
    rw [e1]
    refine idx_b g2 ?_
    simp [szl]
    rw [← eb]
    simp [t2__law_tree_2, fe__law_tree]
    refine draw_ok (by decide) (by decide) fun r hr0 hr1 => ?_
    have fin2 := fun z' hz => fin A.length A B p q both z' e hb hz
    rw [c1]
    simp
    split
    · simp [szl]
      refine Lk46.cat_nn (by simp; omega) ?_
      rw [c2]
      refine Lk46.cat_nn (by simp; omega) ?_
      simp
      have := fin2 (.not both) (.inr rfl) (.d (.int A.length)) (.d both.dat)
      simpa [Sy.dat, t3__law_tree_2] using this
    · simp [szl]
      refine Lk46.cat_nn (by simp; omega) ?_
      rw [c2]
      refine Lk46.cat_nn (by simp; omega) ?_
      simp
      have := fin2 both (.inl rfl) (.d (.int A.length)) (.d both.dat)
      simpa [t3__law_tree_2] using this
theorem tree_ok {n : Nat} {Ls : List Sy} (h1 : 1 ≤ Ls.length) (h4 : Ls.length ≤ 4) (hs : ∀ s ∈ Ls, Tok n 1 4000 s) (hk : ∀ s : Sy, Tok n 28 20000 s → k (.d s.dat)) : F__law_tree [.src, .d (.list (Ls.map Sy.dat))] k x := by
  simp [F__law_tree, runF, bt__law_tree, t0__law_tree, isNo, wipeS]
  refine cmp_all (P := fun y => ∃ s : Sy, (s.ok n ∧ s.dep ≤ 2 ∧ s.len ≤ 4060) ∧ y = s.dat) (fun y hy => ⟨_, rfl, fun ka h => ?_⟩) (by simpa using sz _ (by omega)) fun ys hl hp => ?_
  · obtain ⟨s, hs', rfl⟩ := List.mem_map.mp hy
    have ht := hs s hs'
    have h1 := ht.dep
    have h2 := ht.len
    simp [fe__law_tree]
    refine draw_ok (by decide) (by decide) fun r hr0 hr1 => ?_
    simp
    split
    · simp [szl]
      exact h _ ⟨.not s, ⟨ht.ok, by simp only [Sy.dep]; omega, by simp only [Sy.len]; omega⟩, rfl⟩
    · exact h _ ⟨s, ⟨ht.ok, by omega, by omega⟩, rfl⟩
  · obtain ⟨L0, rfl, hL0⟩ := choose_all hp
    have hl0 : L0.length = Ls.length := by simpa using hl
    rw [List.nil_append]
    simp [t1__law_tree]
    rw [t2__law_tree, x_cons, x_loop]
    simp [RngOk]
    refine ⟨by omega, ?_⟩
    have hS0 : sumL L0 ≤ 4060 * L0.length := by
      clear hl hl0 hp
      induction L0 with
      | nil => simp [sumL]
      | cons a r ih =>
        have h1 := (hL0 a (List.mem_cons_self ..)).2.2
        have h2 := ih fun s hs => hL0 s (List.mem_cons_of_mem _ hs)
        simp only [sumL, List.map_cons, List.sum_cons, List.length_cons] at h2 ⊢
        omega
    let I : Nat → List SV → Prop := fun i ρ => ∃ (L : List Sy) (r2 u v y5 y6 z : SV), ρ = [.src, .d (.list (Ls.map Sy.dat)), r2, u, v, y5, y6, z] ∧ Hd r2 (L.map Sy.dat) ∧ L.length + i = Ls.length ∧ (∀ s ∈ L, s.ok n ∧ s.dep ≤ 2 + 2 * i) ∧ sumL L ≤ 4060 * 4 + 120 * i
    refine loop_inv I (i := 0) ⟨L0, _, _, _, _, _, _, rfl, .inl rfl, by omega, fun s hs' => ⟨(hL0 s hs').1, by have := (hL0 s hs').2.1; omega⟩, by omega⟩ (fun i y ρ hy hI => ?_) fun ρ hI => ?_
    · obtain ⟨L, r2, u, v, y5, y6, z, rfl, hr, hl, hL, hS⟩ := hI
      rw [Nat.zero_add] at *
      obtain ⟨hi, rfl⟩ := rng_get hy
      refine ⟨_, rfl, fun kf hkf => ?_⟩
      refine tree_step (t := i) hr (by omega) (by omega) hL hS (fun L' v' w' hl' hL' hS' => ?_) _ _
      exact hkf _ ⟨L', _, _, _, _, _, _, rfl, .inr rfl, by omega, hL', by omega⟩
    · obtain ⟨L, r2, u, v, y5, y6, z, rfl, hr, hl, hL, hS⟩ := hI
      rw [rngL_length, Nat.zero_add] at hl hL hS
      obtain ⟨s, rfl⟩ : ∃ s, L = [s] := by
        match L, hl with
        | [s], _ => exact ⟨s, rfl⟩
        | [], hl => simp at hl; omega
        | _ :: _ :: _, hl => simp at hl; omega
      have ht := hL s (by simp)
      have hSs : s.len ≤ 4060 * 4 + 360 := by
        simp [sumL] at hS
        omega
      have go : ∀ kf : KF, (∀ s' : Sy, Tok n 28 20000 s' → kf (.rt (.d s'.dat))) → ex fe__law_tree x t4__law_tree [.src, .d (.list (Ls.map Sy.dat)), r2, u, .d s.dat, y5, y6, z] kf := fun kf hkk => by
        rw [t4__law_tree, x_cons, x_loop]
        simp [fe__law_tree, szl]
        refine pick_ok (by simp) (by simp) fun y hy => ?_
        obtain ⟨m, rfl, hm⟩ : ∃ m : Nat, y = .int m ∧ m ≤ 20 := by
          simp at hy
          rcases hy with rfl | rfl | rfl | rfl | rfl
          · exact ⟨0, rfl, by decide⟩
          · exact ⟨1, rfl, by decide⟩
          · exact ⟨2, rfl, by decide⟩
          · exact ⟨7, rfl, by decide⟩
          · exact ⟨20, rfl, by decide⟩
        simp [RngOk]
        refine ⟨by omega, ?_⟩
        let J : Nat → List SV → Prop := fun i ρ => ∃ (s' : Sy) (u : SV), ρ = [.src, .d (.list (Ls.map Sy.dat)), r2, u, .d s'.dat, y5, y6, z] ∧ s'.ok n ∧ s'.dep ≤ 8 + i ∧ s'.len ≤ 4060 * 4 + 360 + 60 * i
        refine loop_inv J (i := 0) ⟨s, _, rfl, ht.1, by have := ht.2; omega, by omega⟩ (fun i y ρ hy hJ => ?_) fun ρ hJ => ?_
        · obtain ⟨s', u', rfl, q1, q2, q3⟩ := hJ
          rw [Nat.zero_add] at *
          refine ⟨_, rfl, fun kf2 hkf => ?_⟩
          simp [szl]
          exact hkf _ ⟨.not s', _, rfl, q1, by simp only [Sy.dep]; omega, by simp only [Sy.len]; omega⟩
        · obtain ⟨s', u', rfl, q1, q2, q3⟩ := hJ
          rw [rngL_length, Nat.zero_add] at q2 q3
          simp [t5__law_tree]
          exact hkk s' ⟨q1, by omega, by omega⟩
      rcases hr with rfl | rfl
      · simp [t3__law_tree]
        refine idx_l (i := 0) rfl ?_
        simp
        exact go _ fun s' hs' => hk s' hs'
      · simp [t3__law_tree]
        refine idx_b (i := 0) rfl ?_
        simp
        exact go _ fun s' hs' => hk s' hs'
end
end Lk47
end
section
/-! k47: numbers drawn; sayings and their contraries. -/
namespace Lk47
open PySem Un Pg Fd
section
variable {k : KA} {x : KX}
@[simp] theorem pow12 : w2 .pow (.d (.int 10)) (.d (.int 12)) k ↔ k (.d (.int (10 ^ 12))) := ⟨fun ⟨_, _, h1, h2, h⟩ => by cases h1; cases h2; exact h.2, fun h => ⟨_, _, rfl, rfl, ⟨by decide, by decide, by decide⟩, h⟩⟩
theorem fr_b4 {f : Nat} (hf : f ≤ 12) {d : Nat} (h0 : 1 ≤ d) (hd : d ≤ 12) (hk : ∀ q, Bd 4 q → k (.d (Fr q))) : Lk47.F__law_fraction [.src, .d (.int f), .d (.int d)] k x := by
  rw [e_fraction]
  exact fraction_ok hf h0 hd fun q hq => hk q (hq.bd (by omega) (by omega))
theorem fr12 (hk : ∀ q, Bd 4 q → k (.d (Fr q))) : Lk47.F__law_fraction [.src, .d (.int 12), .d (.int 12)] k x := fr_b4 (f := 12) (d := 12) (by decide) (by decide) (by decide) hk
theorem known_ok (hk : ∀ vs : List Rat, 1 ≤ vs.length → vs.length ≤ 12 → (∀ q ∈ vs, Bd 60 q) → k (.d (PT vs))) : F__law_known [.src] k x := by
  simp [F__law_known, runF, bt__law_known, t0__law_known, fe__law_known]
  refine fr12 fun q hq => ?_
  have hq0 := den_ne q
  have e12 : (10 : Int) ^ 12 = 1000000000000 := by decide
  have hn := hq.1
  have hd := hq.dn
  have hdp := q.den_pos
  simp [t1__law_known, Lk46.Fr_num, Lk46.Fr_den, fe__law_known]
  refine low_ok (m := 4) hq0 hd (by decide) ?_
  simp [Lk46.Fr_num, Lk46.Fr_den, szl]
  refine ⟨.inl (by decide), .inl (by decide), ?_⟩
  refine low_ok (m := 60) (by omega) (by omega) (by decide) ?_
  simp [szl]
  simp [t2__law_known]
  have hneg : Bd 60 (Rat.divInt (-q.num) q.den) := low_bd (by omega) (by omega) hq0
  have hbig : Bd 60 (Rat.divInt (1000000000000 * q.num + 1) (1000000000000 * q.den)) := low_bd (by omega) (by omega) (by omega)
  simp [t3__law_known, fe__law_known]
  refine draw_ok (by decide) (by decide) fun r hr0 hr1 => ?_
  simp [szl]
  refine pick_ok (by simp) (by simp) fun y hy => ?_
  obtain ⟨m, rfl, hm0, hm1⟩ : ∃ m : Nat, y = .int m ∧ 1 ≤ m ∧ m ≤ 12 := by
    simp at hy
    rcases hy with rfl | rfl | rfl | rfl | rfl
    · exact ⟨1, rfl, by decide, by decide⟩
    · exact ⟨2, rfl, by decide, by decide⟩
    · exact ⟨3, rfl, by decide, by decide⟩
    · exact ⟨12, rfl, by decide, by decide⟩
    · exact ⟨(1 + r).toNat, by rw [Int.toNat_of_nonneg (by omega)], by omega, by omega⟩
  simp
  simp [t4__law_known, RngOk, isNo, wipeS]
  refine ⟨by omega, ?_⟩
  refine cmp_all (P := fun y => ∃ q, Bd 60 q ∧ y = Fr q) (fun y hy => ⟨_, rfl, fun ka h => ?_⟩) (by simpa [rngL] using sz m (by omega)) fun ys hl hp => ?_
  · simp [fe__law_known]
    refine fr12 fun r hr => ?_
    simp [szl]
    refine Lk46.cat_dn (by simp) ?_
    simp
    refine pick_ok (by simp) (by simp) fun y hy => ?_
    simp at hy
    rcases hy with rfl | rfl | rfl | rfl | rfl
    · exact h _ ⟨_, hq.mono (by decide), rfl⟩
    · exact h _ ⟨_, hneg, rfl⟩
    · exact h _ ⟨0, bd0.mono (by decide), rfl⟩
    · exact h _ ⟨_, hbig, rfl⟩
    · exact h _ ⟨_, hr.mono (by decide), rfl⟩
  · obtain ⟨vs, rfl, hvs⟩ := list_Fr hp
    have hln : vs.length = m := by rw [PL_len] at hl; simpa [rngL] using hl
    rw [List.nil_append]
    exact hk vs (by omega) (by omega) hvs
/-! ### sorted -/
theorem one_true {a b c : Bool} (h : (a = true ∧ b = false ∧ c = false) ∨ (a = false ∧ b = true ∧ c = false) ∨ (a = false ∧ b = false ∧ c = true)) {bs : List Bool} (hp : bs.Perm [a, b, c]) (hs : bs.Pairwise fun a b => a = true → b = true) : bs = [false, false, true] := by
  have hl := hp.length_eq
  have hc := hp.count_eq true
  match bs, hl with
  | [p, q, r], _ =>
    rcases h with ⟨rfl, rfl, rfl⟩ | ⟨rfl, rfl, rfl⟩ | ⟨rfl, rfl, rfl⟩ <;> cases p <;> cases q <;> cases r <;> simp_all
theorem srt3 {a b c : Bool} (h : (a = true ∧ b = false ∧ c = false) ∨ (a = false ∧ b = true ∧ c = false) ∨ (a = false ∧ b = false ∧ c = true)) (hk : k (.new [.bool false, .bool false, .bool true])) : w1 .srt (.d (.list [.bool a, .bool b, .bool c])) k := by
  refine ⟨_, rfl, .inr ⟨[a, b, c], rfl, fun bs hp hs => ?_⟩⟩
  rw [one_true h hp hs]
  exact hk
theorem shp_b3 (a b c : Bool) : shp (.list [.bool a, .bool b, .bool c]) := by simp [shp, SeqAt.shaped, PyData.canLay0, PyData.canLayAll0, PyData.depth, PyData.depthAll]
/-! ### sayings and their contraries -/
def Rw (vs : List Rat) (d : PyData) : Prop := ∃ s : Sy, Tok vs.length 45 100000 s ∧ d = .list [s.dat, .bool (s.tr vs)]
theorem cat_b {xs ys : List PyData} (h : xs.length + ys.length ≤ 1000) (hk : k (.new (xs ++ ys))) : w2 .add (.bor xs) (.new ys) k := ⟨_, _, rfl, rfl, sz _ h, hk⟩
theorem truth_end {vs : List Rat} (hv : ∀ q ∈ vs, Bd 1900 q) (h0 : 1 ≤ vs.length) (h1 : vs.length ≤ 30) {u2 u3 u4 u5 u6 u7 u8 u9 u10 u11 u12 u13 : SV} {kf : KF} (hk : kf (.rt (.d (.bool true)))) :
    ex fe__law_by_truth x t9__law_by_truth [.src, .d (PT vs), u2, u3, u4, u5, u6, u7, u8, u9, u10, u11, u12, u13] kf := by
  have hh : ∀ {kk : KA} {xx : KX} (s : Sy), s.dep ≤ 50 → s.ok vs.length → kk (.d (.bool (s.tr vs))) → F_holds 50 [.d s.dat, .d (PT vs)] kk xx := fun {kk xx} s hd ho hk => holds_ok hv (by decide) s hd ho hk
  simp [t9__law_by_truth, PT, PL_len, fe__law_by_truth]
  refine draw_ok (by omega) (by omega) fun a ha0 ha1 => ?_
  obtain ⟨a, rfl⟩ : ∃ z : Nat, a = z := ⟨a.toNat, by omega⟩
  simp [PL_len]
  refine draw_ok (by omega) (by omega) fun b hb0 hb1 => ?_
  obtain ⟨b, rfl⟩ : ∃ z : Nat, b = z := ⟨b.toNat, by omega⟩
  have la : a < vs.length := by omega
  have lb : b < vs.length := by omega
  simp
  simp [t10__law_by_truth, fe__law_by_truth, szl]
  refine hh (.cmp .lt a b) (by simp [Sy.dep]) ⟨la, lb⟩ ?_
  simp [szl]
  refine hh (.cmp .eq a b) (by simp [Sy.dep]) ⟨la, lb⟩ ?_
  simp [szl]
  refine hh (.cmp .lt b a) (by simp [Sy.dep]) ⟨lb, la⟩ ?_
  simp [szl]
  simp [t11__law_by_truth]
  simp [t12__law_by_truth, szl]
  refine srt3 ?_ ?_
  · simp only [Sy.tr, Cw.so]
    rcases (by grind : vg vs a < vg vs b ∨ vg vs a = vg vs b ∨ vg vs b < vg vs a) with h | h | h
    · have h2 : ¬ vg vs a = vg vs b := by grind
      have h3 : ¬ vg vs b < vg vs a := by grind
      simp [h, h2, h3]
    · simp [h]
    · have h2 : ¬ vg vs a = vg vs b := by grind
      have h3 : ¬ vg vs a < vg vs b := by grind
      simp [h, h2, h3]
  · refine w2_intro (x := .list [.bool false, .bool false, .bool true]) (y := .list [.bool false, .bool false, .bool true]) ⟨shp_b3 _ _ _, shp_b3 _ _ _, ?_⟩ rfl rfl
    simp [PyData.eqv, PyData.eqvAll]
    exact hk
theorem truth_tail {vs : List Rat} (hv : ∀ q ∈ vs, Bd 1900 q) (h0 : 1 ≤ vs.length) (h1 : vs.length ≤ 30) {c o : Sy} {As : List PyData} {r3 u4 u5 u8 u9 u10 u11 u12 u13 : SV} {kf : KF} (hc : Tok vs.length 29 60000 c) (ho : Tok vs.length 29 60000 o) (hco : o.tr vs = !c.tr vs)
    (hr : Hd r3 As) (hA : ∀ d ∈ As, Rw vs d) (hAl : As.length ≤ 20) (hk : kf (.rt (.d (.bool true)))) :
    ex fe__law_by_truth x t6__law_by_truth [.src, .d (PT vs), .d c.dat, r3, u4, u5, .d (.bool (c.tr vs)), .d o.dat, u8, u9, u10, u11, u12, u13] kf := by
  simp [t6__law_by_truth, fe__law_by_truth, szl, -Bool.exists_bool]
  refine pick_ok (by simp) (by simp) fun y hy => ?_
  obtain ⟨s0, rfl, hs0⟩ : ∃ s0 : Sy, y = .list [s0.dat, .bool (s0.tr vs)] ∧ Tok vs.length 29 60000 s0 := by
    simp at hy
    rcases hy with rfl | rfl
    · exact ⟨c, rfl, hc⟩
    · exact ⟨o, by rw [hco], ho⟩
  have hd0 := hs0.dep
  have hl0 := hs0.len
  simp [setD]
  rw [t7__law_by_truth, x_cons, x_loop]
  simp [fe__law_by_truth]
  refine deep_ok s0 (by omega) ?_
  simp [RngOk]
  refine ⟨by omega, ?_⟩
  let I : Nat → List SV → Prop := fun i ρ => ∃ (s' : Sy) (u : SV), ρ = [.src, .d (PT vs), .d c.dat, r3, u, u5, .d (.bool (c.tr vs)), .d o.dat, .d s'.dat, .d (.bool (s'.tr vs)), u10, u11, u12, u13] ∧ Tok vs.length (s0.dep + i) (60000 + 60 * i) s'
  refine loop_inv I (i := 0) ⟨s0, _, rfl, ⟨hs0.ok, by omega, by omega⟩⟩ (fun i y ρ hy hI => ?_) fun ρ hI => ?_
  · obtain ⟨s', u, rfl, ht⟩ := hI
    rw [Nat.zero_add] at *
    refine ⟨_, rfl, fun kf2 hkf => ?_⟩
    simp [szl, -Bool.exists_bool]
    have hd := ht.dep
    have hl := ht.len
    exact hkf _ ⟨.not s', _, rfl, ⟨ht.ok, by simp only [Sy.dep]; omega, by simp only [Sy.len]; omega⟩⟩
  · obtain ⟨s', u, rfl, ht⟩ := hI
    rw [rngL_length, Nat.zero_add] at ht
    have hd := ht.dep
    have hl := ht.len
    have ht' : Tok vs.length 45 100000 s' := ⟨ht.ok, by omega, by omega⟩
    have last : ∀ d ∈ As ++ [PyData.list [s'.dat, .bool (s'.tr vs)]], Rw vs d := fun d hd => by
      rcases List.mem_append.mp hd with h | h
      · exact hA d h
      · rw [List.mem_singleton.mp h]
        exact ⟨s', ht', rfl⟩
    have go : loopW (.tp [10, 11]) (ex fe__law_by_truth x (.cons (.ifs (.bnot (.call 83 [0, 1, 2] (.cons (.var 10) (.cons (.var 1) (.cons (.var 11) .nil))) .nil)) (.cons (.ret (.dat (.bool false))) .nil) .nil) .nil)) (As ++ [PyData.list [s'.dat, .bool (s'.tr vs)]])
        [.src, .d (PT vs), .d c.dat, r3, u, u5, .d (.bool (c.tr vs)), .d o.dat, .d s'.dat, .d (.bool (s'.tr vs)), u10, u11, u12, u13] (fun fl => match fl with
          | .nx ρ' => ex fe__law_by_truth x t9__law_by_truth ρ' kf
          | fl => kf fl) := by
      let J : Nat → List SV → Prop := fun _ ρ => ∃ a b, ρ = [.src, .d (PT vs), .d c.dat, r3, u, u5, .d (.bool (c.tr vs)), .d o.dat, .d s'.dat, .d (.bool (s'.tr vs)), a, b, u12, u13]
      refine loop_inv J (i := 0) ⟨_, _, rfl⟩ (fun i y ρ hy hJ => ?_) fun ρ hJ => ?_
      · obtain ⟨a, b, rfl⟩ := hJ
        obtain ⟨s2, hs2, rfl⟩ := last y (List.mem_of_getElem? hy)
        refine ⟨_, rfl, fun kf2 hkf => ?_⟩
        simp [fe__law_by_truth]
        refine is_told_ok hv h1 hs2 ?_
        simp
        exact hkf _ ⟨_, _, rfl⟩
      · obtain ⟨a, b, rfl⟩ := hJ
        exact truth_end hv h0 h1 hk
    rcases hr with rfl | rfl
    · simp [t8__law_by_truth, szl]
      refine Lk46.cat_dn (by simp; omega) ?_
      simp only [seq_n]
      exact go
    · simp [t8__law_by_truth, szl]
      refine cat_b (by simp; omega) ?_
      simp only [seq_n]
      exact go
end
end Lk47
end
section
/-! k47: sayings drawn hold as is due. -/
namespace Lk47
open PySem Un Pg Fd
section
variable {k : KA} {x : KX}
theorem Tok.mono {n d c d' c' : Nat} {s : Sy} (h : Tok n d c s) (hd : d ≤ d') (hc : c ≤ c') : Tok n d' c' s := ⟨h.ok, Nat.le_trans h.dep hd, Nat.le_trans h.len hc⟩
theorem Tok.neg {n d c : Nat} {s : Sy} (h : Tok n d c s) : Tok n (d + 1) (c + 60) (.not s) := ⟨h.ok, Nat.succ_le_succ h.dep, Nat.add_le_add_right h.len 60⟩
theorem Tok.both {n d c d' c' : Nat} {s t : Sy} (h : Tok n d c s) (g : Tok n d' c' t) : Tok n (max d d' + 1) (c + c' + 60) (.and s t) ∧ Tok n (max d d' + 1) (c + c' + 60) (.or s t) := by
  have h1 := h.dep
  have h2 := h.len
  have g1 := g.dep
  have g2 := g.len
  exact ⟨⟨⟨h.ok, g.ok⟩, by simp only [Sy.dep]; omega, by simp only [Sy.len]; omega⟩, ⟨⟨h.ok, g.ok⟩, by simp only [Sy.dep]; omega, by simp only [Sy.len]; omega⟩⟩
theorem by_truth_ok {vs : List Rat} (hv : ∀ q ∈ vs, Bd 1900 q) (h0 : 1 ≤ vs.length) (h1 : vs.length ≤ 30) (hk : k (.d (.bool true))) : F__law_by_truth [.src, .d (PT vs)] k x := by
  simp [F__law_by_truth, runF, bt__law_by_truth, t0__law_by_truth, fe__law_by_truth, PT, PL_len]
  refine leaves_ok h0 (by omega) fun Ls hl1 hl4 hLs => ?_
  simp
  refine tree_ok hl1 hl4 hLs fun c hc => ?_
  have hcd := hc.dep
  have hcl := hc.len
  simp
  simp [t1__law_by_truth, fe__law_by_truth]
  refine truth_ok hv (by decide) c (by omega) hc.ok ?_
  simp
  refine contrary_ok true c (by omega) ?_
  simp
  have hcon : ∀ sp, Tok vs.length 29 60000 (c.con sp) := fun sp => ⟨con_ok sp hc.ok, Nat.le_trans (con_dep sp c) (by omega), Nat.le_trans (con_len sp c) (by omega)⟩
  have rest : ∀ (sp : Bool) (u3 u4 u5 u8 u9 u10 u11 u12 u13 : SV) (kf : KF), kf (.rt (.d (.bool true))) → ex fe__law_by_truth x t3__law_by_truth [.src, .d (PT vs), .d c.dat, u3, u4, u5, .d (.bool (c.tr vs)), .d (c.con sp).dat, u8, u9, u10, u11, u12, u13] kf := fun sp u3 u4 u5 u8 u9 u10 u11 u12 u13 kf hkf => by
    have ho := hcon sp
    have hot := con_tr sp vs c
    generalize c.con sp = o at *
    have hod := ho.dep
    have r1 : Rw vs (.list [c.dat, .bool (c.tr vs)]) := ⟨c, hc.mono (by decide) (by decide), rfl⟩
    have r2 : Rw vs (.list [.tuple [.str "not", c.dat], .bool (!c.tr vs)]) := ⟨.not c, hc.neg.mono (by decide) (by decide), rfl⟩
    have r3 : Rw vs (.list [o.dat, .bool (!c.tr vs)]) := ⟨o, ho.mono (by decide) (by decide), by rw [hot]⟩
    have r4 : Rw vs (.list [.tuple [.str "and", c.dat, o.dat], .bool false]) := ⟨.and c o, (hc.both ho).1.mono (by decide) (by decide), by
      have e : (Sy.and c o).tr vs = false := by
        show (c.tr vs && o.tr vs) = false
        rw [hot]
        cases c.tr vs <;> rfl
      rw [e]
      rfl⟩
    have r5 : Rw vs (.list [.tuple [.str "or", o.dat, c.dat], .bool true]) := ⟨.or o c, (ho.both hc).2.mono (by decide) (by decide), by
      have e : (Sy.or o c).tr vs = true := by
        show (o.tr vs || c.tr vs) = true
        rw [hot]
        cases c.tr vs <;> rfl
      rw [e]
      rfl⟩
    have r6 : Rw vs (.list [.tuple [.str "and", c.dat, c.dat], .bool (c.tr vs)]) := ⟨.and c c, (hc.both hc).1.mono (by decide) (by decide), by
      have e : (Sy.and c c).tr vs = c.tr vs := by
        show (c.tr vs && c.tr vs) = _
        cases c.tr vs <;> rfl
      rw [e]
      rfl⟩
    simp [t3__law_by_truth, szl, -Bool.exists_bool]
    simp [t4__law_by_truth]
    simp [t5__law_by_truth, fe__law_by_truth]
    refine many_ok c (by omega) ?_
    try simp
    refine many_ok o (by omega) ?_
    simp
    split
    · simp [szl]
      refine Lk46.cat_dn (by simp) ?_
      simp
      refine truth_tail hv h0 h1 (hc.mono (by decide) (by decide)) ho hot (.inr rfl) (fun d hd => ?_) (by simp) hkf
      simp only [List.mem_cons, List.not_mem_nil, or_false] at hd
      rcases hd with rfl | rfl | rfl | rfl | rfl | rfl | rfl
      · exact r1
      · exact r2
      · exact r3
      · exact r1
      · exact r4
      · exact r5
      · exact r6
    · refine truth_tail hv h0 h1 (hc.mono (by decide) (by decide)) ho hot (.inl rfl) (fun d hd => ?_) (by simp) hkf
      simp only [List.mem_cons, List.not_mem_nil, or_false] at hd
      rcases hd with rfl | rfl | rfl | rfl
      · exact r1
      · exact r2
      · exact r3
      · exact r1
  simp [t2__law_by_truth, fe__law_by_truth]
  have hd := (hcon true).dep
  refine many_ok (c.con true) (by omega) ?_
  simp
  split
  · refine contrary_ok false c (by omega) ?_
    simp
    exact rest false _ _ _ _ _ _ _ _ _ _ (by simpa using hk)
  · exact rest true _ _ _ _ _ _ _ _ _ _ (by simpa using hk)
end
end Lk47
end
section
/-! k47: what choices come to, said. -/
namespace Lk47
open PySem Un Pg Fd
def claimOf (m : Nat) : Ln → Sy
  | .choice w i j a b => .or (.and (.cmp w i j) (.cmp .eq a m)) (.and (.not (.cmp w i j)) (.cmp .eq m b))
  | .grt i j => .and (.and (.cmp .le i m) (.cmp .le j m)) (.or (.cmp .eq i m) (.cmp .eq j m))
  | .lst i j => .and (.and (.cmp .le m i) (.cmp .le m j)) (.or (.cmp .eq i m) (.cmp .eq j m))
  | _ => .not (.cmp .lt m m)
theorem claim_tr {vs pre : List Rat} {t : Rat} {L : Ln} {m : Nat} (hL : L.ok m) (hm : vg vs m = stepR pre t L) (hp : ∀ j, j < m → vg vs j = vg pre j) : (claimOf m L).tr vs = true := by
  cases L with
  | sum ms c =>
    have h : ¬ vg vs m < vg vs m := by grind
    simp [claimOf, Sy.tr, Cw.so, h]
  | shift i c =>
    have h : ¬ vg vs m < vg vs m := by grind
    simp [claimOf, Sy.tr, Cw.so, h]
  | choice w i j a b =>
    obtain ⟨h1, h2, h3, h4⟩ := hL
    have hm : vg vs m = if w.so (vg pre i) (vg pre j) = true then vg pre a else vg pre b := hm
    rw [← hp i h1, ← hp j h2, ← hp a h3, ← hp b h4] at hm
    simp only [claimOf, Sy.tr]
    cases e : w.so (vg vs i) (vg vs j) with
    | true =>
      rw [e, if_pos rfl] at hm
      simp [Cw.so, hm]
    | false =>
      rw [e, if_neg (by decide)] at hm
      simp [Cw.so, hm]
  | grt i j =>
    have hm : vg vs m = if vg pre j ≤ vg pre i then vg pre i else vg pre j := hm
    rw [← hp i hL.1, ← hp j hL.2] at hm
    simp only [claimOf, Sy.tr, Cw.so]
    by_cases h : vg vs j ≤ vg vs i
    · rw [if_pos h] at hm
      have h1 : vg vs i ≤ vg vs i := by grind
      simp [hm, h, h1]
    · rw [if_neg h] at hm
      have h1 : vg vs i ≤ vg vs j := by grind
      have h2 : vg vs j ≤ vg vs j := by grind
      simp [hm, h1, h2]
  | lst i j =>
    have hm : vg vs m = if vg pre i ≤ vg pre j then vg pre i else vg pre j := hm
    rw [← hp i hL.1, ← hp j hL.2] at hm
    simp only [claimOf, Sy.tr, Cw.so]
    by_cases h : vg vs i ≤ vg vs j
    · rw [if_pos h] at hm
      have h1 : vg vs i ≤ vg vs i := by grind
      simp [hm, h, h1]
    · rw [if_neg h] at hm
      have h1 : vg vs j ≤ vg vs i := by grind
      have h2 : vg vs j ≤ vg vs j := by grind
      simp [hm, h1, h2]
theorem claim_tok {n m : Nat} {L : Ln} (hL : L.ok m) (hm : m < n) : Tok n 10 30000 (claimOf m L) := by
  cases L with
  | sum ms c => exact ⟨⟨hm, hm⟩, by simp [claimOf, Sy.dep], by simp [claimOf, Sy.len]⟩
  | shift i c => exact ⟨⟨hm, hm⟩, by simp [claimOf, Sy.dep], by simp [claimOf, Sy.len]⟩
  | choice w i j a b =>
    obtain ⟨h1, h2, h3, h4⟩ := hL
    exact ⟨⟨⟨⟨by omega, by omega⟩, ⟨by omega, by omega⟩⟩, ⟨⟨by omega, by omega⟩, ⟨by omega, by omega⟩⟩⟩, by simp [claimOf, Sy.dep], by simp [claimOf, Sy.len]⟩
  | grt i j =>
    obtain ⟨h1, h2⟩ := hL
    exact ⟨⟨⟨⟨by omega, by omega⟩, ⟨by omega, by omega⟩⟩, ⟨⟨by omega, by omega⟩, ⟨by omega, by omega⟩⟩⟩, by simp [claimOf, Sy.dep], by simp [claimOf, Sy.len]⟩
  | lst i j =>
    obtain ⟨h1, h2⟩ := hL
    exact ⟨⟨⟨⟨by omega, by omega⟩, ⟨by omega, by omega⟩⟩, ⟨⟨by omega, by omega⟩, ⟨by omega, by omega⟩⟩⟩, by simp [claimOf, Sy.dep], by simp [claimOf, Sy.len]⟩
theorem run_mid {t : Rat} {Ls : List Ln} {vs : List Rat} {i : Nat} {L : Ln} (h : Ls[i]? = some L) : ∃ r, runR vs t Ls = runR vs t (Ls.take i) ++ stepR (runR vs t (Ls.take i)) t L :: r := by
  have e := run_app t (Ls.take (i + 1)) (Ls.drop (i + 1)) vs
  rw [List.take_append_drop] at e
  obtain ⟨r, e2⟩ := run_pre t (Ls.drop (i + 1)) (runR vs t (Ls.take (i + 1)))
  exact ⟨r, by rw [e, e2, run_step h]; simp⟩
theorem vg_app {A B : List Rat} {j : Nat} (h : j < A.length) : vg (A ++ B) j = vg A j := by
  unfold vg
  simp [List.getD, List.getElem?_append_left h]
theorem vg_mid (A : List Rat) (q : Rat) (B : List Rat) : vg (A ++ q :: B) A.length = q := by
  unfold vg
  simp
section
variable {k : KA} {x : KX}
theorem cat_tt {xs ys : List PyData} (h : xs.length + ys.length ≤ 1000) (hk : k (.d (.tuple (xs ++ ys)))) : w2 .add (.d (.tuple xs)) (.d (.tuple ys)) k := ⟨_, _, rfl, rfl, sz _ h, hk⟩
theorem told_b {vs : List Rat} {s : Sy} {b : Bool} (hb : s.tr vs = b) (hv : ∀ q ∈ vs, Bd 1900 q) (hl : vs.length ≤ 30) (h : Tok vs.length 45 100000 s) (hk : k (.d (.bool true))) : F__law_is_told [.d s.dat, .d (PT vs), .d (.bool b)] k x := by
  subst hb
  exact is_told_ok hv hl h hk
theorem claim_step {vs pre : List Rat} {t : Rat} {L : Ln} {n i : Nat} {u0 u1 u2 u3 u4 u5 u11 u12 u13 u14 : SV} {kf : KF} (hv : ∀ q ∈ vs, Bd 1900 q) (hl : vs.length ≤ 30) (hL : L.ok (n + i)) (hi : n + i < vs.length) (hm : vg vs (n + i) = stepR pre t L) (hp : ∀ j, j < n + i → vg vs j = vg pre j)
    (hk : ∀ a b c d, kf (.nx [u0, u1, u2, u3, u4, u5, .d (PT vs), .d (.int n), .d (.int i), .d L.dat, .d (.int ((n + i : Nat) : Int)), a, b, c, d])) :
    ∀ y10 : SV, ex fe__law_by_choices x t0__law_by_choices_10 [u0, u1, u2, u3, u4, u5, .d (PT vs), .d (.int n), .d (.int i), .d L.dat, y10, u11, u12, u13, u14] kf := by
  intro y10
  have htr := claim_tr hL hm hp
  have htk := claim_tok (n := vs.length) hL hi
  have e0 : (n : Int) + (i : Int) = ((n + i : Nat) : Int) := by omega
  have fin : ∀ a c d : SV, ex fe__law_by_choices x t2__law_by_choices_10 [u0, u1, u2, u3, u4, u5, .d (PT vs), .d (.int n), .d (.int i), .d L.dat, .d (.int ((n + i : Nat) : Int)), a, .d (claimOf (n + i) L).dat, c, d] kf := fun a c d => by
    simp [t2__law_by_choices_10, fe__law_by_choices]
    refine told_b htr hv hl (htk.mono (by decide) (by decide)) ?_
    simp [szl]
    refine told_b (s := .not (claimOf (n + i) L)) (by show (!(claimOf (n + i) L).tr vs) = false; rw [htr]; rfl) hv hl (htk.neg.mono (by decide) (by decide)) ?_
    simp [t3__law_by_choices_10]
    have := hk a (.d (claimOf (n + i) L).dat) c d
    simpa using this
  generalize hmm : n + i = m at *
  simp [t0__law_by_choices_10]
  rw [e0]
  simp [t1__law_by_choices_10]
  cases L with
  | sum ms c =>
    simp [Ln.dat, szl]
    refine inn_b rfl (b := false) (by decide) ?_
    simp [szl]
    exact fin _ _ _
  | shift j c =>
    simp [Ln.dat, szl]
    refine inn_b rfl (b := false) (by decide) ?_
    simp [szl]
    exact fin _ _ _
  | choice w a b c d =>
    simp [Ln.dat, t0__law_by_choices_10_1a, idx2, idx3, idx4, szl]
    have ec : cut [PyData.str "choice", .int a, .str w.str, .int b, .int c, .int d] (some 2) (some 3) = [.str w.str] := rfl
    rw [ec]
    refine cat_tt (by simp) ?_
    simp [szl, idx4]
    simp [t1__law_by_choices_10_1a, idx2, idx3, idx5, szl]
    simp [t2__law_by_choices_10_1a]
    exact fin _ _ _
  | grt a b =>
    simp [Ln.dat, szl]
    refine inn_b rfl (b := true) (by decide) ?_
    simp [szl, idx2]
    refine idx_b (i := 0) rfl ?_
    refine cat_tt (by simp) ?_
    simp [szl]
    refine idx_b (i := 1) rfl ?_
    refine cat_tt (by simp) ?_
    simp [szl, idx2]
    exact fin _ _ _
  | lst a b =>
    simp [Ln.dat, szl]
    refine inn_b rfl (b := true) (by decide) ?_
    simp [szl, idx2]
    refine idx_b (i := 0) rfl ?_
    refine cat_tt (by simp) ?_
    simp [szl]
    refine idx_b (i := 1) rfl ?_
    refine cat_tt (by simp) ?_
    simp [szl, idx2]
    exact fin _ _ _
end
end Lk47
end
section
/-! k47: programs with choices; the law. -/
namespace Lk47
open PySem Un Pg Fd
section
variable {k : KA} {x : KX}
theorem enu_get : ∀ (xs : List PyData) (n i : Nat), (enuL n xs)[i]? = (xs[i]?).map fun x => .tuple [.int ((n + i : Nat) : Int), x]
  | [], n, i => by simp [enuL]
  | x :: xs, n, 0 => by simp [enuL]
  | x :: xs, n, i + 1 => by
    have := enu_get xs (n + 1) i
    rw [show n + 1 + i = n + (i + 1) by omega] at this
    simpa [enuL] using this
theorem fr63 (hk : ∀ q, Lk46.Vd q → k (.d (Fr q))) : Lk47.F__law_fraction [.src, .d (.int 6), .d (.int 3)] k x := by
  rw [e_fraction]
  exact fraction_ok (f := 6) (d := 3) (by decide) (by decide) (by decide) fun q hq => hk q (by
    obtain ⟨a, b, e, h1, h2, h3⟩ := hq
    exact Lk46.dr_vd (f := 6) ⟨a, b, e, h1, h2, by omega⟩ (by decide))
theorem vd_half : Lk46.Vd (Rat.divInt (-1) 2) := Lk46.vd_of (by decide) (by unfold NG; decide +kernel) (by decide) (by decide)
theorem half_Fr : PyData.tuple [.int (-1), .int 2] = Fr (Rat.divInt (-1) 2) := Lk46.fr_lit (by decide +kernel) (by decide +kernel)
theorem by_choices_ok (hk : k (.d (.bool true))) : F__law_by_choices [.src] k x := by
  simp [F__law_by_choices, runF, bt__law_by_choices, t0__law_by_choices, fe__law_by_choices, szl]
  refine draw_ok (by decide) (by decide) fun r hr0 hr1 => ?_
  obtain ⟨n, hn, hn0, hn1⟩ : ∃ n : Nat, (1 : Int) + r = n ∧ 1 ≤ n ∧ n ≤ 3 := ⟨(1 + r).toNat, by omega, by omega, by omega⟩
  simp [szl]
  rw [hn]
  simp [t1__law_by_choices]
  simp [t2__law_by_choices, fe__law_by_choices, szl]
  refine pick_ok (by simp) (by simp) fun y hy => ?_
  obtain ⟨w, rfl, hw⟩ : ∃ w : Str, y = .str w ∧ w ∈ five := by
    simp at hy
    rcases hy with rfl | rfl
    · exact ⟨_, rfl, by simp [five]⟩
    · exact ⟨_, rfl, by simp [five]⟩
  simp [szl]
  refine draw_ok (by decide) (by decide) fun s hs0 hs1 => ?_
  obtain ⟨s, rfl⟩ : ∃ z : Nat, s = z := ⟨s.toNat, by omega⟩
  simp
  obtain ⟨ws, ews, hwl, hws⟩ : ∃ ws : List Str, cut [PyData.str (Str.ofString "greatest"), .str (Str.ofString "least"), .str (Str.ofString "choice"), .str (Str.ofString "choice")] (some (s : Int)) none = ws.map PyData.str ∧ ws.length ≤ 4 ∧ ∀ w ∈ ws, w ∈ five := by
    refine ⟨[Str.ofString "greatest", Str.ofString "least", Str.ofString "choice", Str.ofString "choice"].drop s, ?_, by simp, fun z hz => ?_⟩
    · rw [cut_from _ _ (by simp; omega), List.map_drop]
      rfl
    · have := List.mem_of_mem_drop hz
      simp at this
      rcases this with rfl | rfl | rfl <;> simp [five]
  rw [ews]
  refine Lk46.cat_nn (by simp; omega) ?_
  simp
  simp [t3__law_by_choices]
  simp [t4__law_by_choices, fe__law_by_choices]
  rw [show PyData.str w :: ws.map PyData.str = (w :: ws).map PyData.str from rfl]
  rw [e_program]
  refine program_ok hn0 (by omega) (by simp; omega) (fun z hz => ?_) fun Ls hLl hLp _ => ?_
  · rcases List.mem_cons.mp hz with rfl | hz
    · exact hw
    · exact hws z hz
  have hLl5 : Ls.length ≤ 5 := by
    rw [hLl]
    simp
    omega
  simp
  simp [t5__law_by_choices, fe__law_by_choices]
  refine fr63 fun own hown => ?_
  simp
  simp [t6__law_by_choices, RngOk, isNo, wipeS]
  refine ⟨by omega, ?_⟩
  refine cmp_all (P := fun y => ∃ q, Lk46.Vd q ∧ y = Fr q) (fun y hy => ⟨_, rfl, fun ka h => ?_⟩) (by simpa [rngL] using sz n (by omega)) fun ys hl hp => ?_
  · simp [fe__law_by_choices]
    refine fr63 fun q hq => ?_
    simp [szl]
    refine pick_ok (by simp) (by simp) fun y hy => ?_
    simp at hy
    rcases hy with rfl | rfl
    · exact h _ ⟨_, hown, rfl⟩
    · exact h _ ⟨_, hq, rfl⟩
  obtain ⟨vs, rfl, hvs⟩ := Lk46.list_P hp
  have hvl : vs.length = n := by rw [PL_len] at hl; simpa [rngL] using hl
  rw [List.nil_append]
  try simp
  simp [t7__law_by_choices, fe__law_by_choices, szl]
  rw [half_Fr]
  refine pick_ok (by simp) (by simp) fun y hy => ?_
  obtain ⟨t, rfl, ht⟩ : ∃ t, y = Fr t ∧ Lk46.Vd t := by
    simp at hy
    rcases hy with rfl | rfl | rfl
    · exact ⟨0, rfl, Lk46.vd0⟩
    · exact ⟨_, rfl, hown⟩
    · exact ⟨_, rfl, vd_half⟩
  simp
  have hv0 : ∀ q ∈ vs, V 0 q := fun q hq => (hvs q hq).1
  rw [← hvl] at hLp
  simp [t8__law_by_choices, fe__law_by_choices]
  refine run_ok hv0 ht.1 (by omega) (by omega) hLp ?_
  simp
  have hkV := run_V hv0 ht.1 hLp
  have hkb : ∀ q ∈ runR vs t Ls, Bd 1900 q := fun q hq => ((hkV q hq).bd (by omega)).mono (by decide)
  have hkl : (runR vs t Ls).length = n + Ls.length := by rw [run_len, hvl]
  have so : ShowOk (PT (runR vs t Ls)) := ((Sw.pt (b := 1900) (m := 30) hkb (by decide) (by omega)).ok (by decide) (by decide))
  simp [t9__law_by_choices, fe__law_by_choices]
  refine ⟨so, ?_⟩
  rw [e_walk]
  refine Lk46.walk_ok hv0 ht.1 (by omega) (by omega) hLp ?_
  simp
  refine ⟨so, ?_⟩
  rw [t10__law_by_choices, x_cons, x_loop]
  simp
  let I : Nat → List SV → Prop := fun _ ρ => ∃ u1 u3 u5 u8 u9 u10 u11 u12 u13 u14, ρ = [.src, u1, .d (.tuple (Ls.map Ln.dat)), u3, .d (.tuple (PL vs)), u5, .d (PT (runR vs t Ls)), .d (.int n), u8, u9, u10, u11, u12, u13, u14]
  refine loop_inv I (i := 0) ⟨_, _, _, _, _, _, _, _, _, _, rfl⟩ (fun i y ρ hy hI => ?_) fun ρ hI => ?_
  · obtain ⟨u1, u3, u5, u8, u9, u10, u11, u12, u13, u14, rfl⟩ := hI
    rw [enu_get] at hy
    cases e : (Ls.map Ln.dat)[i]? with
    | none => rw [e] at hy; cases hy
    | some d =>
    rw [e] at hy
    cases hy
    obtain ⟨L, hL, rfl⟩ := dat_get e
    have hi : i < Ls.length := (List.getElem?_eq_some_iff.mp hL).1
    refine ⟨_, rfl, fun kf hkf => ?_⟩
    rw [show (0 + i : Nat) = i by omega]
    obtain ⟨r, er⟩ := run_mid (t := t) (vs := vs) hL
    have hpl : (runR vs t (Ls.take i)).length = n + i := by rw [run_len, List.length_take, hvl, Nat.min_eq_left (by omega)]
    refine claim_step (pre := runR vs t (Ls.take i)) (t := t) hkb (by omega) (by rw [← hvl]; exact hLp i L hL) (by omega) ?_ (fun j hj => ?_) (fun a b c d => ?_) _
    · rw [er, ← hpl]
      exact vg_mid _ _ _
    · rw [er]
      exact vg_app (by omega)
    · exact hkf _ ⟨_, _, _, _, _, _, _, _, _, _, rfl⟩
  · obtain ⟨u1, u3, u5, u8, u9, u10, u11, u12, u13, u14, rfl⟩ := hI
    simp [t11__law_by_choices, fe__law_by_choices]
    refine by_truth_ok hkb (by omega) (by omega) ?_
    simpa using hk
end
theorem law_good : ex fe_law noX b_law (ρLaw (n_law.length - 2)) fun fl => fl = .rt (.d (.bool true)) := by
  simp [bt_law, ρLaw]
  rw [t0_law, x_cons, x_loop]
  simp [RngOk]
  let I : Nat → List SV → Prop := fun _ ρ => ∃ a b c, ρ = [.un, .src, a, b, c]
  refine loop_inv I (i := 0) ⟨_, _, _, rfl⟩ (fun i y ρ hy hI => ?_) fun ρ hI => ?_
  · obtain ⟨a, b, c, rfl⟩ := hI
    refine ⟨_, rfl, fun kf hkf => ?_⟩
    simp [fe_law]
    refine known_ok fun vs h0 h1 hvs => ?_
    simp
    refine by_truth_ok (fun q hq => (hvs q hq).mono (by decide)) h0 (by omega) ?_
    simp
    exact hkf _ ⟨_, _, _, rfl⟩
  · obtain ⟨a, b, c, rfl⟩ := hI
    simp only []
    rw [t1_law, x_cons, x_loop]
    simp [RngOk]
    refine loop_inv I (i := 0) ⟨_, _, _, rfl⟩ (fun i y ρ hy hI => ?_) fun ρ hI => ?_
    · obtain ⟨a, b, c, rfl⟩ := hI
      refine ⟨_, rfl, fun kf hkf => ?_⟩
      simp [fe_law]
      refine by_choices_ok ?_
      simp
      exact hkf _ ⟨_, _, _, rfl⟩
    · obtain ⟨a, b, c, rfl⟩ := hI
      simp [t2_law, szl]
      have p1 : PyData.tuple [PyData.tuple [.int 1, .int 2], PyData.tuple [.int 2, .int 3]] = PT [1 / 2, 2 / 3] := by
        have e1 : PyData.tuple [.int 1, .int 2] = Fr (1 / 2) := Lk46.fr_lit (by decide +kernel) (by decide +kernel)
        have e2 : PyData.tuple [.int 2, .int 3] = Fr (2 / 3) := Lk46.fr_lit (by decide +kernel) (by decide +kernel)
        rw [e1, e2]
        rfl
      rw [p1]
      have hv : ∀ q ∈ [(1 / 2 : Rat), 2 / 3], Bd 4 q := fun q hq => by
        simp only [List.mem_cons, List.not_mem_nil, or_false] at hq
        rcases hq with rfl | rfl <;> constructor <;> decide +kernel
      have hh : ∀ {kk : KA} {xx : KX} (s : Sy) (b : Bool), s.dep ≤ 50 → s.ok 2 → s.tr [1 / 2, 2 / 3] = b → kk (.d (.bool b)) → F_holds 50 [.d s.dat, .d (PT [1 / 2, 2 / 3])] kk xx := fun {kk xx} s b hd ho hb hk => holds_ok hv (by decide) s hd ho (by rw [hb]; exact hk)
      simp [t3_law, fe_law, szl]
      refine hh (.cmp .lt 0 1) true (by decide) ⟨by decide, by decide⟩ (by decide +kernel) ?_
      simp [szl]
      refine hh (.cmp .le 1 0) false (by decide) ⟨by decide, by decide⟩ (by decide +kernel) ?_
      simp [szl]
      simp [t4_law]
      simp [t5_law, fe_law, szl]
      refine hh (.or (.cmp .eq 0 1) (.not (.cmp .eq 0 1))) true (by decide) ⟨⟨by decide, by decide⟩, ⟨by decide, by decide⟩⟩ (by decide +kernel) ?_
      simp [szl]
      refine Lk46.cat_dn (by simp) ?_
      simp
      simp [t6_law, fe_law, szl]
      refine hh (.and (.cmp .le 1 1) (.cmp .lt 1 1)) false (by decide) ⟨⟨by decide, by decide⟩, ⟨by decide, by decide⟩⟩ (by decide +kernel) ?_
      simp [szl]
      refine cat_b (by simp) ?_
      simp
      have so : ShowOk (.list [.bool true, .bool false, .bool true, .bool false]) := by
        have sb : ∀ b : Bool, Sw 20 0 (.bool b) := fun b => by cases b <;> constructor <;> decide +kernel
        exact (Sw.list (n := 20) (e := 0) (m := 4) (fun d hd => by
          simp at hd
          rcases hd with rfl | rfl | rfl | rfl <;> exact sb _) (by simp)).ok (by decide) (by decide)
      exact so
end Lk47
end
section
/-! k47: the text in the pure language (printed). -/
namespace Lk47
open PySem PySem.Spec PyProof.Rows L2 Un Pg Fd
def top (i : Nat) : Stmt := PySem.Challenge.pw_unsureworks_k47_sayings_and_their_contra.main.body.getD i (.Pass ⟨0, 0, 0, 0⟩)
abbrev FnP (K : PySem.W.Frag) (x : Str) (st : Stmt) (f : Addr) (fd : FuncData) : Prop := FunD K x x (defArgs st) (defBody st) (defScope st) [] [] f fd
abbrev nc_lowest : Nc := ⟨n_lowest, [], [], true, 0, []⟩
theorem sc_lowest : FnScope n_lowest ["top", "bottom"] (defScope (top 2)) := ⟨rfl, rfl, rfl, by decide +kernel, rfl, by decide +kernel, by decide +kernel⟩
theorem ck_lowest : (chkS nc_lowest (defScope (top 2)) b_lowest).b (defBody (top 2)) = true := by decide +kernel
abbrev nc_plus : Nc := ⟨n_plus, [⟨1, "lowest", 2, [], [0, 1]⟩], [], false, 1, []⟩
theorem sc_plus : FnScope n_plus ["f", "g"] (defScope (top 3)) := ⟨rfl, rfl, rfl, by decide +kernel, rfl, by decide +kernel, by decide +kernel⟩
theorem ck_plus : (chkS nc_plus (defScope (top 3)) b_plus).b (defBody (top 3)) = true := by decide +kernel
abbrev nc_times : Nc := ⟨n_times, [⟨1, "lowest", 2, [], [0, 1]⟩], [], false, 1, []⟩
theorem sc_times : FnScope n_times ["f", "g"] (defScope (top 4)) := ⟨rfl, rfl, rfl, by decide +kernel, rfl, by decide +kernel, by decide +kernel⟩
theorem ck_times : (chkS nc_times (defScope (top 4)) b_times).b (defBody (top 4)) = true := by decide +kernel
abbrev nc_order : Nc := ⟨n_order, [], [], false, 0, []⟩
theorem sc_order : FnScope n_order ["f", "g"] (defScope (top 5)) := ⟨rfl, rfl, rfl, by decide +kernel, rfl, by decide +kernel, by decide +kernel⟩
theorem ck_order : (chkS nc_order (defScope (top 5)) b_order).b (defBody (top 5)) = true := by decide +kernel
abbrev nc_is_so : Nc := ⟨n_is_so, [], [], false, 0, []⟩
theorem sc_is_so : FnScope n_is_so ["word", "sign"] (defScope (top 8)) := ⟨rfl, rfl, rfl, by decide +kernel, rfl, by decide +kernel, by decide +kernel⟩
theorem ck_is_so : (chkS nc_is_so (defScope (top 8)) b_is_so).b (defBody (top 8)) = true := by decide +kernel
abbrev nc__line_at : Nc := ⟨n__line_at, [⟨2, "plus", 2, [], [0, 1]⟩, ⟨3, "times", 2, [], [0, 1]⟩, ⟨52, "is_so", 2, [], [0, 1]⟩, ⟨41, "order", 2, [], [0, 1]⟩], [], false, 2, []⟩
theorem sc__line_at : FnScope n__line_at ["line", "values", "t"] (defScope (top 9)) := ⟨rfl, rfl, rfl, by decide +kernel, rfl, by decide +kernel, by decide +kernel⟩
theorem ck__line_at : (chkS nc__line_at (defScope (top 9)) b__line_at).b (defBody (top 9)) = true := by decide +kernel
abbrev nc_run : Nc := ⟨n_run, [⟨54, "_line_at", 3, [], [0, 1, 2]⟩], [], false, 3, []⟩
theorem sc_run : FnScope n_run ["program", "numbers", "t"] (defScope (top 10)) := ⟨rfl, rfl, rfl, by decide +kernel, rfl, by decide +kernel, by decide +kernel⟩
theorem ck_run : (chkS nc_run (defScope (top 10)) b_run).b (defBody (top 10)) = true := by decide +kernel
abbrev nc_holds : Nc := ⟨n_holds, [⟨52, "is_so", 2, [], [0, 1]⟩, ⟨41, "order", 2, [], [0, 1]⟩, ⟨75, "holds", 2, [], [0, 1]⟩], [("COMPARED", (.tuple [(.str "<"), (.str "<="), (.str "=")]))], false, 2, []⟩
theorem sc_holds : FnScope n_holds ["saying", "values"] (defScope (top 11)) := ⟨rfl, rfl, rfl, by decide +kernel, rfl, by decide +kernel, by decide +kernel⟩
theorem ck_holds : (chkS nc_holds (defScope (top 11)) b_holds).b (defBody (top 11)) = true := by decide +kernel
abbrev nc__law_pick : Nc := ⟨n__law_pick, [⟨0, "_law_draw", 2, [], [0, 1]⟩], [], false, 1, []⟩
theorem sc__law_pick : FnScope n__law_pick ["_law_bowl_here", "_law_items"] (defScope (top 15)) := ⟨rfl, rfl, rfl, by decide +kernel, rfl, by decide +kernel, by decide +kernel⟩
theorem ck__law_pick : (chkS nc__law_pick (defScope (top 15)) b__law_pick).b (defBody (top 15)) = true := by decide +kernel
abbrev nc__law_low : Nc := ⟨n__law_low, [], [], false, 0, []⟩
theorem sc__law_low : FnScope n__law_low ["_law_top", "_law_bottom"] (defScope (top 16)) := ⟨rfl, rfl, rfl, by decide +kernel, rfl, by decide +kernel, by decide +kernel⟩
theorem ck__law_low : (chkS nc__law_low (defScope (top 16)) b__law_low).b (defBody (top 16)) = true := by decide +kernel
abbrev nc__law_total : Nc := ⟨n__law_total, [⟨57, "_law_low", 2, [], [0, 1]⟩], [], false, 1, []⟩
theorem sc__law_total : FnScope n__law_total ["_law_pairs"] (defScope (top 17)) := ⟨rfl, rfl, rfl, by decide +kernel, rfl, by decide +kernel, by decide +kernel⟩
theorem ck__law_total : (chkS nc__law_total (defScope (top 17)) b__law_total).b (defBody (top 17)) = true := by decide +kernel
abbrev nc__law_is_true : Nc := ⟨n__law_is_true, [], [], false, 0, []⟩
theorem sc__law_is_true : FnScope n__law_is_true ["_law_one", "_law_word", "_law_two"] (defScope (top 18)) := ⟨rfl, rfl, rfl, by decide +kernel, rfl, by decide +kernel, by decide +kernel⟩
theorem ck__law_is_true : (chkS nc__law_is_true (defScope (top 18)) b__law_is_true).b (defBody (top 18)) = true := by decide +kernel
abbrev nc__law_fraction : Nc := ⟨n__law_fraction, [⟨56, "_law_pick", 2, [], [0, 1]⟩, ⟨0, "_law_draw", 2, [], [0, 1]⟩, ⟨57, "_law_low", 2, [], [0, 1]⟩], [], false, 2, []⟩
theorem sc__law_fraction : FnScope n__law_fraction ["_law_bowl_here", "_law_far", "_law_deep_here"] (defScope (top 19)) := ⟨rfl, rfl, rfl, by decide +kernel, rfl, by decide +kernel, by decide +kernel⟩
theorem ck__law_fraction : (chkS nc__law_fraction (defScope (top 19)) b__law_fraction).b (defBody (top 19)) = true := by decide +kernel
abbrev nc__law_name : Nc := ⟨n__law_name, [⟨56, "_law_pick", 2, [], [0, 1]⟩, ⟨0, "_law_draw", 2, [], [0, 1]⟩], [], false, 2, []⟩
theorem sc__law_name : FnScope n__law_name ["_law_bowl_here", "_law_top"] (defScope (top 20)) := ⟨rfl, rfl, rfl, by decide +kernel, rfl, by decide +kernel, by decide +kernel⟩
theorem ck__law_name : (chkS nc__law_name (defScope (top 20)) b__law_name).b (defBody (top 20)) = true := by decide +kernel
abbrev nc__law_line : Nc := ⟨n__law_line, [⟨60, "_law_name", 2, [], [0, 1]⟩, ⟨17, "_law_fraction", 3, [], [0, 1, 2]⟩, ⟨0, "_law_draw", 2, [], [0, 1]⟩, ⟨56, "_law_pick", 2, [], [0, 1]⟩], [], false, 3, []⟩
theorem sc__law_line : FnScope n__law_line ["_law_bowl_here", "_law_top", "_law_word"] (defScope (top 21)) := ⟨rfl, rfl, rfl, by decide +kernel, rfl, by decide +kernel, by decide +kernel⟩
theorem ck__law_line : (chkS nc__law_line (defScope (top 21)) b__law_line).b (defBody (top 21)) = true := by decide +kernel
abbrev nc__law_program : Nc := ⟨n__law_program, [⟨61, "_law_line", 3, [], [0, 1, 2]⟩], [], false, 4, []⟩
theorem sc__law_program : FnScope n__law_program ["_law_bowl_here", "_law_wide", "_law_words"] (defScope (top 22)) := ⟨rfl, rfl, rfl, by decide +kernel, rfl, by decide +kernel, by decide +kernel⟩
theorem ck__law_program : (chkS nc__law_program (defScope (top 22)) b__law_program).b (defBody (top 22)) = true := by decide +kernel
abbrev nc__law_walk : Nc := ⟨n__law_walk, [⟨58, "_law_total", 1, [], [0]⟩, ⟨59, "_law_is_true", 3, [], [0, 1, 2]⟩], [], false, 2, []⟩
theorem sc__law_walk : FnScope n__law_walk ["_law_lines", "_law_spot", "_law_tick"] (defScope (top 23)) := ⟨rfl, rfl, rfl, by decide +kernel, rfl, by decide +kernel, by decide +kernel⟩
theorem ck__law_walk : (chkS nc__law_walk (defScope (top 23)) b__law_walk).b (defBody (top 23)) = true := by decide +kernel
abbrev nc__law_tree : Nc := ⟨n__law_tree, [⟨0, "_law_draw", 2, [], [0, 1]⟩, ⟨56, "_law_pick", 2, [], [0, 1]⟩], [], false, 2, []⟩
theorem sc__law_tree : FnScope n__law_tree ["_law_bowl_here", "_law_parts"] (defScope (top 24)) := ⟨rfl, rfl, rfl, by decide +kernel, rfl, by decide +kernel, by decide +kernel⟩
theorem ck__law_tree : (chkS nc__law_tree (defScope (top 24)) b__law_tree).b (defBody (top 24)) = true := by decide +kernel
abbrev nc__law_truth : Nc := ⟨n__law_truth, [⟨77, "_law_truth", 2, [], [0, 1]⟩, ⟨59, "_law_is_true", 3, [], [0, 1, 2]⟩], [], false, 2, []⟩
theorem sc__law_truth : FnScope n__law_truth ["_law_claim", "_law_known_here"] (defScope (top 25)) := ⟨rfl, rfl, rfl, by decide +kernel, rfl, by decide +kernel, by decide +kernel⟩
theorem ck__law_truth : (chkS nc__law_truth (defScope (top 25)) b__law_truth).b (defBody (top 25)) = true := by decide +kernel
abbrev nc__law_contrary : Nc := ⟨n__law_contrary, [⟨78, "_law_contrary", 2, [], [0, 1]⟩], [], false, 1, []⟩
theorem sc__law_contrary : FnScope n__law_contrary ["_law_claim", "_law_is_split"] (defScope (top 26)) := ⟨rfl, rfl, rfl, by decide +kernel, rfl, by decide +kernel, by decide +kernel⟩
theorem ck__law_contrary : (chkS nc__law_contrary (defScope (top 26)) b__law_contrary).b (defBody (top 26)) = true := by decide +kernel
abbrev nc__law_many : Nc := ⟨n__law_many, [⟨79, "_law_many", 1, [], [0]⟩], [], false, 1, []⟩
theorem sc__law_many : FnScope n__law_many ["_law_claim"] (defScope (top 27)) := ⟨rfl, rfl, rfl, by decide +kernel, rfl, by decide +kernel, by decide +kernel⟩
theorem ck__law_many : (chkS nc__law_many (defScope (top 27)) b__law_many).b (defBody (top 27)) = true := by decide +kernel
abbrev nc__law_deep : Nc := ⟨n__law_deep, [⟨80, "_law_deep", 1, [], [0]⟩], [], false, 1, []⟩
theorem sc__law_deep : FnScope n__law_deep ["_law_claim"] (defScope (top 28)) := ⟨rfl, rfl, rfl, by decide +kernel, rfl, by decide +kernel, by decide +kernel⟩
theorem ck__law_deep : (chkS nc__law_deep (defScope (top 28)) b__law_deep).b (defBody (top 28)) = true := by decide +kernel
abbrev nc__law_known : Nc := ⟨n__law_known, [⟨17, "_law_fraction", 3, [], [0, 1, 2]⟩, ⟨57, "_law_low", 2, [], [0, 1]⟩, ⟨56, "_law_pick", 2, [], [0, 1]⟩, ⟨0, "_law_draw", 2, [], [0, 1]⟩], [], false, 3, []⟩
theorem sc__law_known : FnScope n__law_known ["_law_bowl_here"] (defScope (top 29)) := ⟨rfl, rfl, rfl, by decide +kernel, rfl, by decide +kernel, by decide +kernel⟩
theorem ck__law_known : (chkS nc__law_known (defScope (top 29)) b__law_known).b (defBody (top 29)) = true := by decide +kernel
abbrev nc__law_leaves : Nc := ⟨n__law_leaves, [⟨0, "_law_draw", 2, [], [0, 1]⟩, ⟨56, "_law_pick", 2, [], [0, 1]⟩], [], false, 2, []⟩
theorem sc__law_leaves : FnScope n__law_leaves ["_law_bowl_here", "_law_many_here"] (defScope (top 30)) := ⟨rfl, rfl, rfl, by decide +kernel, rfl, by decide +kernel, by decide +kernel⟩
theorem ck__law_leaves : (chkS nc__law_leaves (defScope (top 30)) b__law_leaves).b (defBody (top 30)) = true := by decide +kernel
abbrev nc__law_is_told : Nc := ⟨n__law_is_told, [⟨75, "holds", 2, [], [0, 1]⟩, ⟨75, "holds", 0, ["values", "saying"], [1, 0]⟩], [], false, 52, []⟩
theorem sc__law_is_told : FnScope n__law_is_told ["_law_claim", "_law_known_here", "_law_due"] (defScope (top 31)) := ⟨rfl, rfl, rfl, by decide +kernel, rfl, by decide +kernel, by decide +kernel⟩
theorem ck__law_is_told : (chkS nc__law_is_told (defScope (top 31)) b__law_is_told).b (defBody (top 31)) = true := by decide +kernel
abbrev nc__law_by_truth : Nc := ⟨n__law_by_truth, [⟨76, "_law_tree", 2, [], [0, 1]⟩, ⟨82, "_law_leaves", 2, [], [0, 1]⟩, ⟨77, "_law_truth", 2, [], [0, 1]⟩, ⟨78, "_law_contrary", 2, [], [0, 1]⟩, ⟨79, "_law_many", 1, [], [0]⟩, ⟨56, "_law_pick", 2, [], [0, 1]⟩, ⟨80, "_law_deep", 1, [], [0]⟩, ⟨83, "_law_is_told", 3, [], [0, 1, 2]⟩, ⟨0, "_law_draw", 2, [], [0, 1]⟩, ⟨75, "holds", 2, [], [0, 1]⟩], [], false, 53, []⟩
theorem sc__law_by_truth : FnScope n__law_by_truth ["_law_bowl_here", "_law_known_here"] (defScope (top 32)) := ⟨rfl, rfl, rfl, by decide +kernel, rfl, by decide +kernel, by decide +kernel⟩
theorem ck__law_by_truth : (chkS nc__law_by_truth (defScope (top 32)) b__law_by_truth).b (defBody (top 32)) = true := by decide +kernel
abbrev nc__law_by_choices : Nc := ⟨n__law_by_choices, [⟨0, "_law_draw", 2, [], [0, 1]⟩, ⟨56, "_law_pick", 2, [], [0, 1]⟩, ⟨62, "_law_program", 3, [], [0, 1, 2]⟩, ⟨17, "_law_fraction", 3, [], [0, 1, 2]⟩, ⟨55, "run", 3, [], [0, 1, 2]⟩, ⟨63, "_law_walk", 3, [], [0, 1, 2]⟩, ⟨83, "_law_is_told", 3, [], [0, 1, 2]⟩, ⟨84, "_law_by_truth", 2, [], [0, 1]⟩], [], false, 54, []⟩
theorem sc__law_by_choices : FnScope n__law_by_choices ["_law_bowl_here"] (defScope (top 33)) := ⟨rfl, rfl, rfl, by decide +kernel, rfl, by decide +kernel, by decide +kernel⟩
theorem ck__law_by_choices : (chkS nc__law_by_choices (defScope (top 33)) b__law_by_choices).b (defBody (top 33)) = true := by decide +kernel
abbrev nc_law : Nc := ⟨n_law, [⟨84, "_law_by_truth", 2, [], [0, 1]⟩, ⟨81, "_law_known", 1, [], [0]⟩, ⟨85, "_law_by_choices", 1, [], [0]⟩, ⟨75, "holds", 2, [], [0, 1]⟩], [], false, 55, []⟩
theorem sc_law : FnScope n_law ["_law_script"] (defScope (top 34)) := ⟨rfl, rfl, rfl, by decide +kernel, rfl, by decide +kernel, by decide +kernel⟩
theorem ck_law : (chkS nc_law (defScope (top 34)) b_law).b (defBody (top 34)).tail = true := by decide +kernel
def nSrc : List Str := ["_law_script", "_law_folded", "_law_cell"]
theorem scSrc : FnScope nSrc ["_law_script"] (defScope (top 13)) := ⟨rfl, rfl, rfl, by decide +kernel, rfl, by decide +kernel, by decide +kernel⟩
/-! ### the facts of the head -/
abbrev es : List (Str × Nat) := []
abbrev ly (K : PySem.W.Frag) : Lay := ⟨K, bowlK, errLay es K, fun _ _ _ _ => False⟩
structure Facts (P : Program) (K : PySem.W.Frag) (mg : Str → Option Value) : Prop where
  er : Errs P K mg (ly K) es
  gb : ∀ x ∈ bltNames, mg x = none
  dm : mg "divmod" = none
  gcd : mg "gcd" = some (.builtin "math.gcd")
  c_COMPARED : ∃ u v, mg "COMPARED" = some u ∧ RelV v u ∧ ∀ H, Dq K H v (.tuple [(.str "<"), (.str "<="), (.str "=")])
  d_lowest : ∃ fd, FnP K "lowest" (top 2) (He.ga K "lowest") fd
  m_lowest : mg "lowest" = some (.ref (He.ga K "lowest"))
  d_plus : ∃ fd, FnP K "plus" (top 3) (He.ga K "plus") fd
  m_plus : mg "plus" = some (.ref (He.ga K "plus"))
  d_times : ∃ fd, FnP K "times" (top 4) (He.ga K "times") fd
  m_times : mg "times" = some (.ref (He.ga K "times"))
  d_order : ∃ fd, FnP K "order" (top 5) (He.ga K "order") fd
  m_order : mg "order" = some (.ref (He.ga K "order"))
  d_is_so : ∃ fd, FnP K "is_so" (top 8) (He.ga K "is_so") fd
  m_is_so : mg "is_so" = some (.ref (He.ga K "is_so"))
  d__line_at : ∃ fd, FnP K "_line_at" (top 9) (He.ga K "_line_at") fd
  m__line_at : mg "_line_at" = some (.ref (He.ga K "_line_at"))
  d_run : ∃ fd, FnP K "run" (top 10) (He.ga K "run") fd
  m_run : mg "run" = some (.ref (He.ga K "run"))
  d_holds : ∃ fd, FnP K "holds" (top 11) (He.ga K "holds") fd
  m_holds : mg "holds" = some (.ref (He.ga K "holds"))
  d__law_bowl : ∃ fd, FnP K "_law_bowl" (top 13) (He.ga K "_law_bowl") fd
  m__law_bowl : mg "_law_bowl" = some (.ref (He.ga K "_law_bowl"))
  d__law_draw : ∃ fd, FnP K "_law_draw" (top 14) (He.ga K "_law_draw") fd
  m__law_draw : mg "_law_draw" = some (.ref (He.ga K "_law_draw"))
  d__law_pick : ∃ fd, FnP K "_law_pick" (top 15) (He.ga K "_law_pick") fd
  m__law_pick : mg "_law_pick" = some (.ref (He.ga K "_law_pick"))
  d__law_low : ∃ fd, FnP K "_law_low" (top 16) (He.ga K "_law_low") fd
  m__law_low : mg "_law_low" = some (.ref (He.ga K "_law_low"))
  d__law_total : ∃ fd, FnP K "_law_total" (top 17) (He.ga K "_law_total") fd
  m__law_total : mg "_law_total" = some (.ref (He.ga K "_law_total"))
  d__law_is_true : ∃ fd, FnP K "_law_is_true" (top 18) (He.ga K "_law_is_true") fd
  m__law_is_true : mg "_law_is_true" = some (.ref (He.ga K "_law_is_true"))
  d__law_fraction : ∃ fd, FnP K "_law_fraction" (top 19) (He.ga K "_law_fraction") fd
  m__law_fraction : mg "_law_fraction" = some (.ref (He.ga K "_law_fraction"))
  d__law_name : ∃ fd, FnP K "_law_name" (top 20) (He.ga K "_law_name") fd
  m__law_name : mg "_law_name" = some (.ref (He.ga K "_law_name"))
  d__law_line : ∃ fd, FnP K "_law_line" (top 21) (He.ga K "_law_line") fd
  m__law_line : mg "_law_line" = some (.ref (He.ga K "_law_line"))
  d__law_program : ∃ fd, FnP K "_law_program" (top 22) (He.ga K "_law_program") fd
  m__law_program : mg "_law_program" = some (.ref (He.ga K "_law_program"))
  d__law_walk : ∃ fd, FnP K "_law_walk" (top 23) (He.ga K "_law_walk") fd
  m__law_walk : mg "_law_walk" = some (.ref (He.ga K "_law_walk"))
  d__law_tree : ∃ fd, FnP K "_law_tree" (top 24) (He.ga K "_law_tree") fd
  m__law_tree : mg "_law_tree" = some (.ref (He.ga K "_law_tree"))
  d__law_truth : ∃ fd, FnP K "_law_truth" (top 25) (He.ga K "_law_truth") fd
  m__law_truth : mg "_law_truth" = some (.ref (He.ga K "_law_truth"))
  d__law_contrary : ∃ fd, FnP K "_law_contrary" (top 26) (He.ga K "_law_contrary") fd
  m__law_contrary : mg "_law_contrary" = some (.ref (He.ga K "_law_contrary"))
  d__law_many : ∃ fd, FnP K "_law_many" (top 27) (He.ga K "_law_many") fd
  m__law_many : mg "_law_many" = some (.ref (He.ga K "_law_many"))
  d__law_deep : ∃ fd, FnP K "_law_deep" (top 28) (He.ga K "_law_deep") fd
  m__law_deep : mg "_law_deep" = some (.ref (He.ga K "_law_deep"))
  d__law_known : ∃ fd, FnP K "_law_known" (top 29) (He.ga K "_law_known") fd
  m__law_known : mg "_law_known" = some (.ref (He.ga K "_law_known"))
  d__law_leaves : ∃ fd, FnP K "_law_leaves" (top 30) (He.ga K "_law_leaves") fd
  m__law_leaves : mg "_law_leaves" = some (.ref (He.ga K "_law_leaves"))
  d__law_is_told : ∃ fd, FnP K "_law_is_told" (top 31) (He.ga K "_law_is_told") fd
  m__law_is_told : mg "_law_is_told" = some (.ref (He.ga K "_law_is_told"))
  d__law_by_truth : ∃ fd, FnP K "_law_by_truth" (top 32) (He.ga K "_law_by_truth") fd
  m__law_by_truth : mg "_law_by_truth" = some (.ref (He.ga K "_law_by_truth"))
  d__law_by_choices : ∃ fd, FnP K "_law_by_choices" (top 33) (He.ga K "_law_by_choices") fd
  m__law_by_choices : mg "_law_by_choices" = some (.ref (He.ga K "_law_by_choices"))
  d_law : ∃ fd, FnP K "law" (top 34) (He.ga K "law") fd
  m_law : mg "law" = some (.ref (He.ga K "law"))
section
variable {P : Program} {w : World} {mg : Str → Option Value} {base : Heap} {K : PySem.W.Frag}
theorem ok_source {f : Addr} {fd : FuncData} (F : FnP K "_law_bowl" (top 13) f fd) (g : ∀ x ∈ bltNames, mg x = none) : FnG P w K mg base 1 f fd ["_law_script"] (spSrc bowlK K) := by
  refine fn_ofG F scSrc (fun vs H Q E h => ?_) fun cdv A outer s H vs Q E hr h => ?_
  · obtain ⟨a, ns, rfl, _⟩ := h
    rfl
  refine ⟨_, pss_cons (ps_setLc (i := 1) (own := [("_law_cell", 2)]) (g := gName 2) (by rfl) scSrc.nd rfl rfl (sw_true rfl rfl rfl (by decide +kernel)) (pi_list (pe_slice sl_list (pv 0) po_none (po_some pe_int)))
      (blkOk_by (own := [("_law_cell", 2)]) (N := nSrc) (sc := defScope (top 13)) (by decide +kernel)) (fun _ _ _ _ _ => pg_name (i := 2) scSrc.nd rfl (Or.inl rfl)) (fun _ _ _ _ _ => pts_nil)
      (fun _ _ _ _ _ => pe_callB call_abs (by rfl) (g "abs" (by decide)) PyProof.Rows.boot_abs (pa_cons (pe_op op_add (pe_op op_mul pe_int (pv 2)) (pe_callTy call_int1 (by rfl) (g "int" (by decide)) PyProof.Rows.boot_int (pa_cons (pe_cmpR (op := .Lt) op_lt (pv 2) pe_int rfl) pa_nil))) pa_nil)))
    (pss_one (ps_ret (pe_lst (pa_cons (pe_lc (own := [("_law_cell", 2)]) (g := gName 2) (by rfl) scSrc.nd (pi_list (pv 1))
        (blkOk_by (own := [("_law_cell", 2)]) (N := nSrc) (sc := defScope (top 13)) (by decide +kernel)) (fun _ _ _ _ _ => pg_name (i := 2) scSrc.nd rfl (Or.inl rfl)) (fun _ _ _ _ _ => pts_one (pt_cmpR (op := .GtE) op_ge (pv 2) (pe_op op_pow pe_int pe_int) rfl))
        (fun _ _ _ _ _ => pv 2))
      (pa_cons (pe_op op_cat (pv 1) (pe_lst (pa_cons (pe_op op_add (pe_callB call_len_seq (by rfl) (g "len" (by decide)) PySem.boot_len (pa_cons (pv 1) pa_nil)) pe_int) pa_nil)))
      (pa_cons (pe_op op_add pe_int (pe_callB (cr_sum rfl) (by rfl) (g "sum" (by decide)) boot_sum (pa_cons (pv 1) pa_nil)))
      (pa_cons pe_int pa_nil))))))), ?_⟩
  obtain ⟨a, ns, rfl, hs, hn, hQ⟩ := h
  refine ⟨_, rfl, 63, rfl, a, _, rfl, hs, fun c hc => ⟨c, rfl, ⟨_, SqL.of upd_same⟩, fun D hD => ?_⟩⟩
  rw [cut_ints] at hD ⊢
  have hm : (Un.cut ns none (some 63)).length ≤ 63 := by
    unfold Un.cut
    rw [List.length_take, List.length_drop]
    omega
  generalize Un.cut ns none (some 63) = ms at hm hD ⊢
  have hcD : c ≠ D := fun z => by rw [← z, upd_same] at hD; cases hD
  have hD0 : H D = none := by rw [upd_ne (Ne.symm hcD)] at hD; exact hD
  let Pv : Nat → Hp → Prop := fun i H' => ∃ fs : List Int, H' D = some (.lst (fs.map V.int)) ∧ H' c = some (.lst (ms.map V.int)) ∧ fs.length ≤ i ∧ ∀ b o, H b = some o → H' b = some o
  refine lc_list (xs := ms.map V.int) Pv ⟨[], upd_same, (upd_ne hcD).trans upd_same, Nat.le_refl _, fun b o e => (upd_ne (ne_of_none e hD0)).trans ((upd_ne (ne_of_none e hc)).trans e)⟩ (fun i H' _ ⟨_, _, h, _⟩ => SqL.of h) (fun i y H' hy hP => ?_) fun H' hP => ?_
  · obtain ⟨fs, e1, e2, e3, e4⟩ := hP
    have hi : i < ms.length := by
      have := (List.getElem?_eq_some_iff.mp hy).1
      simpa using this
    obtain ⟨z, rfl⟩ : ∃ z : Int, y = .int z := by
      rw [List.getElem?_map] at hy
      cases q : ms[i]? with
      | none => rw [q] at hy; cases hy
      | some z => rw [q] at hy; exact ⟨z, (Option.some.inj hy).symm⟩
    refine ⟨rfl, ?_⟩
    refine ⟨_, rfl, 2, z, rfl, rfl, .inl (by decide), _, rfl, z, 0, rfl, rfl, .inr ⟨_, rfl, _, _, rfl, rfl, _, rfl, _, e1, by rw [List.length_map]; exact Nat.lt_of_lt_of_le (show fs.length < 100 by omega) (by decide), ?_⟩⟩
    exact ⟨fs ++ [_], upd_same.trans (snoc_int _ _), (upd_ne hcD).trans e2, by simp; omega, fun b o e => (upd_ne (ne_of_none e hD0)).trans (e4 b o e)⟩
  · obtain ⟨fs, e1, e2, e3, e4⟩ := hP
    have hfl : fs.length ≤ 63 := by
      rw [List.length_map] at e3
      omega
    refine ⟨_, rfl, D, rfl, ⟨_, SqL.of e1⟩, fun p hp => ?_⟩
    have hDp : D ≠ p := fun z => by rw [← z, e1] at hp; cases hp
    have hp0 : H p = none := by
      cases z : H p with
      | none => rfl
      | some o => rw [e4 p o z] at hp; cases hp
    let Pw : Nat → Hp → Prop := fun i H2 => ∃ gs : List Int, H2 p = some (.lst (gs.map V.int)) ∧ H2 D = some (.lst (fs.map V.int)) ∧ gs.length ≤ i ∧ ∀ b o, H b = some o → H2 b = some o
    refine lc_list (xs := fs.map V.int) Pw ⟨[], upd_same, (upd_ne hDp).trans e1, Nat.le_refl _, fun b o e => (upd_ne (ne_of_none e hp0)).trans (e4 b o e)⟩ (fun i H2 _ ⟨_, _, h, _⟩ => SqL.of h) (fun i y H2 hy hP => ?_) fun H2 hP => ?_
    · obtain ⟨gs, g1, g2, g3, g4⟩ := hP
      have hi : i < fs.length := by
        have := (List.getElem?_eq_some_iff.mp hy).1
        simpa using this
      obtain ⟨z, rfl⟩ : ∃ z : Int, y = .int z := by
        rw [List.getElem?_map] at hy
        cases q : fs[i]? with
        | none => rw [q] at hy; cases hy
        | some z => rw [q] at hy; exact ⟨z, (Option.some.inj hy).symm⟩
      refine ⟨rfl, ?_⟩
      refine ⟨_, rfl, 10, 18, rfl, rfl, ⟨by decide, by decide, by decide⟩, _, _, rfl, rfl, _, rfl, ?_⟩
      refine ite_both (fun _ => ?_) fun _ => ?_
      · refine ⟨_, rfl, _, g1, by rw [List.length_map]; exact Nat.lt_of_lt_of_le (show gs.length < 100 by omega) (by decide), ?_⟩
        exact ⟨gs ++ [_], upd_same.trans (snoc_int _ _), (upd_ne hDp).trans g2, by simp; omega, fun b o e => (upd_ne (ne_of_none e hp0)).trans (g4 b o e)⟩
      · exact ⟨gs, g1, g2, by omega, g4⟩
    · obtain ⟨gs, g1, g2, g3, g4⟩ := hP
      refine ⟨_, rfl, _, rfl, D, _, rfl, .inl (SqL.of g2), _, 41, rfl, rfl, (by show 1 ≤ sizeLine; decide), fun q0 hq0 => ?_⟩
      have hDq0 : D ≠ q0 := fun z => by rw [← z, g2] at hq0; cases hq0
      have hpq0 : p ≠ q0 := fun z => by rw [← z, g1] at hq0; cases hq0
      have hq00 : H q0 = none := by
        cases z : H q0 with
        | none => rfl
        | some o => rw [g4 q0 o z] at hq0; cases hq0
      refine ⟨D, q0, _, _, rfl, rfl, (upd_ne hDq0).trans g2, upd_same, Nat.le_trans (show (List.map V.int fs).length + 1 ≤ 100 by rw [List.length_map]; omega) (by decide), fun q hq => ?_⟩
      have hq1 : H2 q = none ∧ q ≠ q0 := by
        by_cases z : q = q0
        · rw [z, upd_same] at hq; cases hq
        · rw [upd_ne z] at hq; exact ⟨hq, z⟩
      have hDq : D ≠ q := fun z => by rw [← z, g2] at hq1; cases hq1.1
      have hpq : p ≠ q := fun z => by rw [← z, g1] at hq1; cases hq1.1
      have hqH : H q = none := by
        cases z : H q with
        | none => rfl
        | some o => rw [g4 q o z] at hq1; cases hq1.1
      refine ⟨_, rfl, D, fs, rfl, SqL.of ((upd_ne hDq).trans ((upd_ne hDq0).trans g2)), 7, _, rfl, rfl, by show 4 ≤ sizeLine; decide, fun d hd => ?_⟩
      have hdq : d ≠ q := fun z => by rw [z, upd_same] at hd; cases hd
      rw [upd_ne hdq] at hd
      have hdq0 : d ≠ q0 := fun z => by rw [z, upd_same] at hd; cases hd
      rw [upd_ne hdq0] at hd
      have hdp : d ≠ p := fun z => by rw [z, g1] at hd; cases hd
      have hdH : H d = none := by
        cases z : H d with
        | none => rfl
        | some o => rw [g4 d o z] at hd; cases hd
      refine hQ (bowlL d p q) _ ⟨d, p, q, hpq, hdp, hdq, rfl⟩ ⟨gs, fs ++ [((List.map V.int fs).length : Int) + 41], 7 + fs.sum, 0, upd_same, ?_, ?_, by simp⟩ (fun b o e => ?_) fun b f => ?_
      · exact (upd_ne (Ne.symm hdp)).trans ((upd_ne hpq).trans ((upd_ne hpq0).trans g1))
      · exact (upd_ne (Ne.symm hdq)).trans (upd_same.trans (snoc_int _ _))
      · exact (upd_ne (ne_of_none e hdH)).trans ((upd_ne (ne_of_none e hqH)).trans ((upd_ne (ne_of_none e hq00)).trans (g4 b o e)))
      · rcases f with rfl | rfl | rfl
        · exact hdH
        · exact hp0
        · exact hqH
end
def nDraw : List Str := ["_law_bowl_here", "_law_many_here", "_law_deep_here", "_law_digit", "_law_turn", "_law_cell", "_law_state", "_law_mixed"]
theorem scDraw : FnScope nDraw ["_law_bowl_here", "_law_many_here"] (defScope (top 14)) := ⟨rfl, rfl, rfl, by decide +kernel, rfl, by decide +kernel, by decide +kernel⟩
section
variable {P : Program} {w : World} {mg : Str → Option Value} {base : Heap} {l : Lay}
theorem ok_draw {f : Addr} {fd : FuncData} (hκ : l.κ = bowlK) (F : FnP l.K "_law_draw" (top 14) f fd) (g : ∀ x ∈ bltNames, mg x = none) (gdm : mg "divmod" = none) : FnG P w l.K mg base 1 f fd ["_law_bowl_here", "_law_many_here"] (spF l drawW 2) := by
  refine fn_ofG F scDraw (fun vs H Q E h => ?_) fun cdv A outer s H vs Q E hr h => ?_
  · obtain ⟨L, Hi, args, k, x, h1, h2, h3, h4, h5, h6, h7⟩ := h
    rw [h6.len, h5] <;> rfl
  have hu : A.units + 3 + 200 < cLine := by
    have := hr.r.un
    have e : (A.deeper (envOfC "_law_draw" (defScope (top 14)) s.heap.objs.size f cdv)).units = A.units + 3 := rfl
    omega
  refine ⟨_, pss_cons (ps_set (i := 2) scDraw.nd rfl (.inl rfl) (pe_ix ix_list (pv 0) pe_int (fun _ _ => rfl)) rfl)
    (pss_cons (ps_if (pt_cmpR (op := .NotEq) (op_neD (by show A.units + 3 + 64 < cLine; omega)) (pv 2) (pe_lst pa_nil) rfl)
      (pss_cons (ps_set (i := 3) scDraw.nd rfl (.inl rfl) (pe_op op_modN (pe_callTy call_int1 (by rfl) (g "int" (by decide)) PyProof.Rows.boot_int (pa_cons (pe_ix ix_list (pv 2) (pe_un un_neg pe_int) (fun _ _ => rfl)) pa_nil)) (pv 1)) rfl)
        (pss_cons (ps_asg (pe_op op_fdivW (pe_ix ix_list (pv 2) (pe_un un_neg pe_int) (fun _ _ => rfl)) (pv 1)) (pg_sub (pv 2) (pe_un un_neg pe_int) set_list))
          (pss_cons (ps_if (pt_cmpR (op := .Eq) op_eq (pe_ix ix_list (pv 2) (pe_un un_neg pe_int) (fun _ _ => rfl)) pe_int rfl) (pss_one (ps_expr (pe_bm0 PySem.F.plainAttrs_list PySem.F.slot_list_pop PySem.F.type_list_pop mt_pop (pv 2)))) pss_nil)
            (pss_one (ps_ret (pv 3)))))) pss_nil)
      (pss_cons (ps_asg (pe_op op_add (pe_ix ix_list (pv 0) pe_int (fun _ _ => rfl)) pe_int) (pg_sub (pv 0) pe_int set_list))
        (pss_cons (ps_set (i := 4) scDraw.nd rfl (.inl rfl) (pe_ix ix_list (pv 0) pe_int (fun _ _ => rfl)) rfl)
          (pss_cons (ps_set (i := 5) scDraw.nd rfl (.inl rfl) (pe_ix ix_list (pe_ix ix_list (pv 0) pe_int (fun _ _ => rfl))
              (pe_op op_modN (pe_callTy call_int1 (by rfl) (g "int" (by decide)) PyProof.Rows.boot_int (pa_cons (pv 4) pa_nil)) (pe_callB call_len_seq (by rfl) (g "len" (by decide)) PySem.boot_len (pa_cons (pe_ix ix_list (pv 0) pe_int (fun _ _ => rfl)) pa_nil))) (fun _ _ => rfl)) rfl)
            (pss_cons (ps_set (i := 6) scDraw.nd rfl (.inl rfl) (pe_op op_modN (pe_callTy call_int1 (by rfl) (g "int" (by decide)) PyProof.Rows.boot_int
                (pa_cons (pe_op op_add (pe_op op_add (pe_op op_mul (pe_ix ix_list (pv 0) pe_int (fun _ _ => rfl)) pe_int) (pe_op op_mul (pv 5) pe_int)) (pv 4)) pa_nil)) pe_int) rfl)
              (pss_cons (ps_asg (pv 6) (pg_sub (pv 0) pe_int set_list))
              (pss_cons (ps_set (i := 7) scDraw.nd rfl (.inl rfl) (pe_op op_modN (pe_callTy call_int1 (by rfl) (g "int" (by decide)) PyProof.Rows.boot_int
                  (pa_cons (pe_op op_add (pe_op op_mul (pv 6) (pv 6)) (pe_op op_mul pe_int (pv 4))) pa_nil)) pe_int) rfl)
                (pss_cons (ps_set (i := 7) scDraw.nd rfl (.inl rfl) (pe_op op_modN (pe_callTy call_int1 (by rfl) (g "int" (by decide)) PyProof.Rows.boot_int (pa_cons (pe_op op_add (pe_op op_mul (pv 7) (pv 7)) (pv 6)) pa_nil)) pe_int) rfl)
                  (pss_one (ps_ret (pe_op op_modN (pe_callTy call_int1 (by rfl) (g "int" (by decide)) PyProof.Rows.boot_int (pa_cons (pe_op op_fdiv (pv 7) pe_int) pa_nil)) (pv 1)))))))))))), ?_⟩
  obtain ⟨L, Hi, args, k, x, h1, h2, h3, h4, h5, h6, ⟨n, rfl, hn, hl, hk⟩, h8, h9⟩ := h
  rw [hκ] at h1
  obtain ⟨d, p, q, hpq, hdp, hdq, rfl⟩ := h1
  cases h6 with
  | cons a1 t1 =>
  cases t1 with
  | cons a2 t2 =>
  cases t2
  obtain rfl := a1
  cases a2
  obtain ⟨deep, small, fold, turn, e1, e2, e3, e4⟩ := h2
  have fin : ∀ (H' : Hp) (deep' : List Int) (fold' turn' : Int), H' d = some (.lst (bowlXs p q fold' turn')) → H' p = some (.lst (deep'.map V.int)) → H' q = some (.lst (small.map V.int)) → (∀ a o, H a = some o → a ≠ d → a ≠ p → a ≠ q → H' a = some o) →
      (∀ a, H' a = none → H a = none) → ∀ r, 0 ≤ r → r < n → Q (.int r) H' := fun H' deep' fold' turn' g1 g2 g3 g4 g5 r r0 r1 =>
    h8 _ (hk r r0 r1) (.int r) Hi H' (bowl_grow h3 h4 (fun a o e nf => g4 a o e (fun z => nf (.inl z)) (fun z => nf (.inr (.inl z))) fun z => nf (.inr (.inr z))) g5) ⟨deep', small, fold', turn', g1, g2, g3, e4⟩ (Dq.int r)
  refine ⟨_, rfl, d, _, 0, .ref p, rfl, rfl, SqL.of e1, at_nul _ _ _ _, ?_⟩
  refine ⟨_, rfl, by decide, fun p0 hp0 => ?_⟩
  have n1 : d ≠ p0 := fun z => by rw [← z, e1] at hp0; cases hp0
  have n2 : p ≠ p0 := fun z => by rw [← z, e2] at hp0; cases hp0
  have n3 : q ≠ p0 := fun z => by rw [← z, e3] at hp0; cases hp0
  have e1' : L2.upd H p0 (.lst []) d = some (.lst (bowlXs p q fold turn)) := (upd_ne n1).trans e1
  have e2' : L2.upd H p0 (.lst []) p = some (.lst (deep.map V.int)) := (upd_ne n2).trans e2
  have e3' : L2.upd H p0 (.lst []) q = some (.lst (small.map V.int)) := (upd_ne n3).trans e3
  have k' : ∀ a o, H a = some o → L2.upd H p0 (.lst []) a = some o := fun a o e => (upd_ne (ne_of_none e hp0)).trans e
  have d' : ∀ a, L2.upd H p0 (.lst []) a = none → H a = none := fun a e => by
    by_cases z : a = p0
    · rw [z]; exact hp0
    · rw [upd_ne z] at e; exact e
  clear e1 e2 e3
  refine ⟨.list (deep.map PyData.int), .list [], deep_empty e2', .lst (SqL.of upd_same) .nil, shape_ints deep, rfl, ?_⟩
  cases deep with
  | nil =>
    refine ⟨false, rfl, ?_⟩
    show tNext _ _ _
    refine ⟨_, rfl, d, _, 3, .int turn, rfl, rfl, SqL.of e1', at_three _ _ _ _, _, _, rfl, rfl, _, rfl, d, _, 3, 3, rfl, rfl, e1', rfl, ?_⟩
    have m1 : L2.upd (L2.upd H p0 (.lst [])) d (.lst ((bowlXs p q fold turn).set 3 (.int (turn + 1)))) d = some (.lst (bowlXs p q fold (turn + 1))) := upd_same
    have m3 : L2.upd (L2.upd H p0 (.lst [])) d (.lst ((bowlXs p q fold turn).set 3 (.int (turn + 1)))) q = some (.lst (small.map V.int)) := (upd_ne (Ne.symm hdq)).trans e3'
    obtain ⟨c, hc⟩ := cyc_get e4 (turn + 1)
    have hlen : (0 : Int) < ((small.map V.int).length : Int) := by
      cases small with
      | nil => exact absurd rfl e4
      | cons a r => simp <;> omega
    refine ⟨_, rfl, d, _, 3, .int (turn + 1), rfl, rfl, SqL.of m1, at_three _ _ _ _, ?_⟩
    refine ⟨_, rfl, d, _, 1, .ref q, rfl, rfl, SqL.of m1, at_one _ _ _ _, _, rfl, .inl ⟨_, rfl, _, rfl, d, _, 1, .ref q, rfl, rfl, SqL.of m1, at_one _ _ _ _, q, _, rfl, .inl (SqL.of m3), _, _, rfl, rfl, (by omega), q, _, _, .int c, rfl, rfl, SqL.of m3, hc, ?_⟩⟩
    refine ⟨_, rfl, d, _, 2, .int fold, rfl, rfl, SqL.of m1, at_two _ _ _ _, _, _, rfl, rfl, .inr (by decide), _, rfl, _, _, rfl, rfl, .inr (by decide), _, _, rfl, rfl, _, rfl, _, _, rfl, rfl, .inl ⟨_, rfl, _, _, rfl, rfl, (by show (2305843009213693951 : Int) ≠ 0; decide), ?_⟩⟩
    refine ⟨_, rfl, _, rfl, d, _, 2, 2, rfl, rfl, m1, rfl, ?_⟩
    refine ⟨_, rfl, _, rfl, _, _, rfl, rfl, .inl (small7 _ _ (by decide) (by decide)), _, rfl, _, _, rfl, rfl, .inl (by decide), _, _, rfl, rfl, .inl ⟨_, rfl, _, _, rfl, rfl, (by show (1000000000000000003 : Int) ≠ 0; decide), ?_⟩⟩
    refine ⟨_, rfl, _, rfl, _, _, rfl, rfl, .inl (small7 _ _ (by decide) (by decide)), _, rfl, _, _, rfl, rfl, .inl ⟨_, rfl, _, _, rfl, rfl, (by show (2305843009213693951 : Int) ≠ 0; decide), ?_⟩⟩
    refine ⟨_, rfl, _, _, rfl, rfl, ⟨by decide, by decide⟩, .inl ⟨_, rfl, _, rfl, _, _, rfl, rfl, (by omega), ?_⟩⟩
    refine fin _ [] _ (turn + 1) upd_same ((upd_ne (Ne.symm hdp)).trans ((upd_ne (Ne.symm hdp)).trans e2')) ((upd_ne (Ne.symm hdq)).trans m3) (fun a o e z1 z2 z3 => (upd_ne z1).trans ((upd_ne z1).trans (k' a o e))) (fun a e => d' a ?_) _ (Int.fmod_nonneg_of_pos _ hn) (Int.fmod_lt_of_pos _ hn)
    by_cases z : a = d
    · rw [z, upd_same] at e
      cases e
    · rw [upd_ne z, upd_ne z] at e
      exact e
  | cons i0 r0 =>
    refine ⟨true, rfl, ?_⟩
    obtain ⟨r, i, er⟩ : ∃ r i, i0 :: r0 = r ++ [i] := by
      rcases List.eq_nil_or_concat (i0 :: r0) with z | ⟨m, c, z⟩
      · cases z
      · exact ⟨m, c, by simpa using z⟩
    rw [er, List.map_append] at e2'
    have e2' : L2.upd H p0 (.lst []) p = some (.lst (r.map V.int ++ [V.int i])) := e2'
    refine ⟨_, rfl, 1, rfl, p, _, -1, .int i, rfl, rfl, SqL.of e2', at_end _ _, .inl ⟨_, rfl, _, rfl, _, _, rfl, rfl, (by omega), ?_⟩⟩
    refine ⟨_, rfl, 1, rfl, p, _, -1, .int i, rfl, rfl, SqL.of e2', at_end _ _, _, rfl, _, _, rfl, rfl, ⟨hn, hl⟩, _, rfl, 1, rfl, p, _, -1, (r.map V.int).length, rfl, rfl, e2', ix_end _ _, ?_⟩
    have es : (r.map V.int ++ [V.int i]).set (r.map V.int).length (.int (i / n)) = r.map V.int ++ [V.int (i / n)] := by simp
    rw [es]
    have g1 : L2.upd (L2.upd H p0 (.lst [])) p (.lst (r.map V.int ++ [V.int (i / n)])) p = some (.lst (r.map V.int ++ [V.int (i / n)])) := upd_same
    have g2 : L2.upd (L2.upd H p0 (.lst [])) p (.lst (r.map V.int ++ [V.int (i / n)])) d = some (.lst (bowlXs p q fold turn)) := (upd_ne hdp).trans e1'
    have g3 : L2.upd (L2.upd H p0 (.lst [])) p (.lst (r.map V.int ++ [V.int (i / n)])) q = some (.lst (small.map V.int)) := (upd_ne (Ne.symm hpq)).trans e3'
    have g4 : ∀ a o, H a = some o → a ≠ p → L2.upd (L2.upd H p0 (.lst [])) p (.lst (r.map V.int ++ [V.int (i / n)])) a = some o := fun a o e z => (upd_ne z).trans (k' a o e)
    have g5 : ∀ a, L2.upd (L2.upd H p0 (.lst [])) p (.lst (r.map V.int ++ [V.int (i / n)])) a = none → H a = none := fun a e => by
      refine d' a ?_
      by_cases z : a = p
      · rw [z, upd_same] at e
        cases e
      · rw [upd_ne z] at e
        exact e
    have f0 := Int.fmod_nonneg_of_pos i hn
    have f1 := Int.fmod_lt_of_pos i hn
    refine ⟨_, rfl, 1, rfl, p, _, -1, .int (i / n), rfl, rfl, SqL.of g1, at_end _ _, rfl, _, rfl, ?_⟩
    by_cases hz : i / n = 0
    · rw [decide_eq_true (by rw [hz])]
      refine ⟨_, rfl, .inl ⟨rfl, _, SqL.of g1⟩, p, _, .int (i / n), rfl, rfl, g1, by simp, ?_⟩
      refine ⟨_, rfl, ?_⟩
      refine fin _ r fold turn ((upd_ne hdp).trans g2) (upd_same.trans (by simp)) ((upd_ne (Ne.symm hpq)).trans g3) (fun a o e z1 z2 z3 => (upd_ne z2).trans (g4 a o e z2)) (fun a e => ?_) _ f0 f1
      by_cases z : a = p
      · rw [z, upd_same] at e
        cases e
      · rw [upd_ne z] at e
        exact g5 a e
    · rw [decide_eq_false (by simpa using hz)]
      exact ⟨_, rfl, fin _ (r ++ [i / n]) fold turn g2 (g1.trans (by simp)) g3 (fun a o e z1 z2 z3 => g4 a o e z2) g5 _ f0 f1⟩
end
section
variable {P : Program} {w : World} {K : PySem.W.Frag} {mg : Str → Option Value} {base : Heap}
theorem g__law_draw (Z : Facts P K mg) : ∃ fd, FnP K "_law_draw" (top 14) (He.ga K "_law_draw") fd ∧ FnG P w K mg base 1 (He.ga K "_law_draw") fd ["_law_bowl_here", "_law_many_here"] (spF (ly K) drawW 2) := by
  obtain ⟨fd, F⟩ := Z.d__law_draw
  exact ⟨fd, F, ok_draw (l := ly K) rfl F Z.gb Z.dm⟩
theorem g_lowest (Z : Facts P K mg) : ∃ fd, FnP K "lowest" (top 2) (He.ga K "lowest") fd ∧ FnG P w K mg base 1 (He.ga K "lowest") fd ["top", "bottom"] (spF (ly K) F_lowest 2) := by
  have gl : Glob P w mg base (ly K) nc_lowest fe_lowest :=
    { mgn := Z.gb
      gcd := fun _ => Z.gcd
      pats := fun p hp => by
        cases hp
      csts := fun c hc => by
        cases hc
      errs := Z.er.sub (by decide)
    }
  obtain ⟨fd, F⟩ := Z.d_lowest
  unfold F_lowest
  exact ⟨fd, F, fn_run (l := ly K) (nc := nc_lowest) F sc_lowest gl ck_lowest⟩
theorem g_plus (Z : Facts P K mg) : ∃ fd, FnP K "plus" (top 3) (He.ga K "plus") fd ∧ FnG P w K mg base 2 (He.ga K "plus") fd ["f", "g"] (spF (ly K) F_plus 2) := by
  obtain ⟨fd0, D0, G0⟩ := g_lowest (P := P) (w := w) (base := base) Z
  have gl : Glob P w mg base (ly K) nc_plus fe_plus :=
    { mgn := Z.gb
      gcd := fun h => nomatch h
      pats := fun p hp => by
        simp only [List.mem_cons, List.not_mem_nil, or_false] at hp
        rcases hp with rfl
        · exact call_of ⟨1, "lowest", 2, [], [0, 1]⟩ rfl D0 Z.m_lowest rfl G0 (by decide) fun _ _ _ _ _ _ us ws h1 h2 => match us, ws, h1, h2 with | [_, _], [], _, _ => rfl
      csts := fun c hc => by
        cases hc
      errs := Z.er.sub (by decide)
    }
  obtain ⟨fd, F⟩ := Z.d_plus
  unfold F_plus
  exact ⟨fd, F, fn_run (l := ly K) (nc := nc_plus) F sc_plus gl ck_plus⟩
theorem g_times (Z : Facts P K mg) : ∃ fd, FnP K "times" (top 4) (He.ga K "times") fd ∧ FnG P w K mg base 2 (He.ga K "times") fd ["f", "g"] (spF (ly K) F_times 2) := by
  obtain ⟨fd0, D0, G0⟩ := g_lowest (P := P) (w := w) (base := base) Z
  have gl : Glob P w mg base (ly K) nc_times fe_times :=
    { mgn := Z.gb
      gcd := fun h => nomatch h
      pats := fun p hp => by
        simp only [List.mem_cons, List.not_mem_nil, or_false] at hp
        rcases hp with rfl
        · exact call_of ⟨1, "lowest", 2, [], [0, 1]⟩ rfl D0 Z.m_lowest rfl G0 (by decide) fun _ _ _ _ _ _ us ws h1 h2 => match us, ws, h1, h2 with | [_, _], [], _, _ => rfl
      csts := fun c hc => by
        cases hc
      errs := Z.er.sub (by decide)
    }
  obtain ⟨fd, F⟩ := Z.d_times
  unfold F_times
  exact ⟨fd, F, fn_run (l := ly K) (nc := nc_times) F sc_times gl ck_times⟩
theorem g_order (Z : Facts P K mg) : ∃ fd, FnP K "order" (top 5) (He.ga K "order") fd ∧ FnG P w K mg base 1 (He.ga K "order") fd ["f", "g"] (spF (ly K) F_order 2) := by
  have gl : Glob P w mg base (ly K) nc_order fe_order :=
    { mgn := Z.gb
      gcd := fun h => nomatch h
      pats := fun p hp => by
        cases hp
      csts := fun c hc => by
        cases hc
      errs := Z.er.sub (by decide)
    }
  obtain ⟨fd, F⟩ := Z.d_order
  unfold F_order
  exact ⟨fd, F, fn_run (l := ly K) (nc := nc_order) F sc_order gl ck_order⟩
theorem g_is_so (Z : Facts P K mg) : ∃ fd, FnP K "is_so" (top 8) (He.ga K "is_so") fd ∧ FnG P w K mg base 1 (He.ga K "is_so") fd ["word", "sign"] (spF (ly K) F_is_so 2) := by
  have gl : Glob P w mg base (ly K) nc_is_so fe_is_so :=
    { mgn := Z.gb
      gcd := fun h => nomatch h
      pats := fun p hp => by
        cases hp
      csts := fun c hc => by
        cases hc
      errs := Z.er.sub (by decide)
    }
  obtain ⟨fd, F⟩ := Z.d_is_so
  unfold F_is_so
  exact ⟨fd, F, fn_run (l := ly K) (nc := nc_is_so) F sc_is_so gl ck_is_so⟩
theorem g__line_at (Z : Facts P K mg) : ∃ fd, FnP K "_line_at" (top 9) (He.ga K "_line_at") fd ∧ FnG P w K mg base 3 (He.ga K "_line_at") fd ["line", "values", "t"] (spF (ly K) F__line_at 3) := by
  obtain ⟨fd0, D0, G0⟩ := g_plus (P := P) (w := w) (base := base) Z
  obtain ⟨fd1, D1, G1⟩ := g_times (P := P) (w := w) (base := base) Z
  obtain ⟨fd2, D2, G2⟩ := g_is_so (P := P) (w := w) (base := base) Z
  obtain ⟨fd3, D3, G3⟩ := g_order (P := P) (w := w) (base := base) Z
  have gl : Glob P w mg base (ly K) nc__line_at fe__line_at :=
    { mgn := Z.gb
      gcd := fun h => nomatch h
      pats := fun p hp => by
        simp only [List.mem_cons, List.not_mem_nil, or_false] at hp
        rcases hp with rfl | rfl | rfl | rfl
        · exact call_of ⟨2, "plus", 2, [], [0, 1]⟩ rfl D0 Z.m_plus rfl G0 (by decide) fun _ _ _ _ _ _ us ws h1 h2 => match us, ws, h1, h2 with | [_, _], [], _, _ => rfl
        · exact call_of ⟨3, "times", 2, [], [0, 1]⟩ rfl D1 Z.m_times rfl G1 (by decide) fun _ _ _ _ _ _ us ws h1 h2 => match us, ws, h1, h2 with | [_, _], [], _, _ => rfl
        · exact call_of ⟨52, "is_so", 2, [], [0, 1]⟩ rfl D2 Z.m_is_so rfl G2 (by decide) fun _ _ _ _ _ _ us ws h1 h2 => match us, ws, h1, h2 with | [_, _], [], _, _ => rfl
        · exact call_of ⟨41, "order", 2, [], [0, 1]⟩ rfl D3 Z.m_order rfl G3 (by decide) fun _ _ _ _ _ _ us ws h1 h2 => match us, ws, h1, h2 with | [_, _], [], _, _ => rfl
      csts := fun c hc => by
        cases hc
      errs := Z.er.sub (by decide)
    }
  obtain ⟨fd, F⟩ := Z.d__line_at
  unfold F__line_at
  exact ⟨fd, F, fn_run (l := ly K) (nc := nc__line_at) F sc__line_at gl ck__line_at⟩
theorem g_run (Z : Facts P K mg) : ∃ fd, FnP K "run" (top 10) (He.ga K "run") fd ∧ FnG P w K mg base 4 (He.ga K "run") fd ["program", "numbers", "t"] (spF (ly K) F_run 3) := by
  obtain ⟨fd0, D0, G0⟩ := g__line_at (P := P) (w := w) (base := base) Z
  have gl : Glob P w mg base (ly K) nc_run fe_run :=
    { mgn := Z.gb
      gcd := fun h => nomatch h
      pats := fun p hp => by
        simp only [List.mem_cons, List.not_mem_nil, or_false] at hp
        rcases hp with rfl
        · exact call_of ⟨54, "_line_at", 3, [], [0, 1, 2]⟩ rfl D0 Z.m__line_at rfl G0 (by decide) fun _ _ _ _ _ _ us ws h1 h2 => match us, ws, h1, h2 with | [_, _, _], [], _, _ => rfl
      csts := fun c hc => by
        cases hc
      errs := Z.er.sub (by decide)
    }
  obtain ⟨fd, F⟩ := Z.d_run
  unfold F_run
  exact ⟨fd, F, fn_run (l := ly K) (nc := nc_run) F sc_run gl ck_run⟩
theorem g_holds (Z : Facts P K mg) : ∀ n : Nat, ∃ fd, FnP K "holds" (top 11) (He.ga K "holds") fd ∧ FnG P w K mg base (2 + n) (He.ga K "holds") fd ["saying", "values"] (spF (ly K) (F_holds n) 2)
  | 0 => by
    obtain ⟨fd, F⟩ := Z.d_holds
    rw [F_holds_z]
    exact ⟨fd, F, fn_none (l := ly K) F sc_holds⟩
  | n + 1 => by
    obtain ⟨fd0, D0, G0⟩ := g_is_so (P := P) (w := w) (base := base) Z
    obtain ⟨fd1, D1, G1⟩ := g_order (P := P) (w := w) (base := base) Z
    obtain ⟨fd2, D2, G2⟩ := g_holds Z n
    have gl : Glob P w mg base (ly K) { nc_holds with k := 2 + n } (fe_holds (F_holds n)) :=
      { mgn := Z.gb
        gcd := fun h => nomatch h
        pats := fun p hp => by
          simp only [List.mem_cons, List.not_mem_nil, or_false] at hp
          rcases hp with rfl | rfl | rfl
          · exact call_of ⟨52, "is_so", 2, [], [0, 1]⟩ rfl D0 Z.m_is_so rfl G0 (by show _ ≤ 2 + n; omega) fun _ _ _ _ _ _ us ws h1 h2 => match us, ws, h1, h2 with | [_, _], [], _, _ => rfl
          · exact call_of ⟨41, "order", 2, [], [0, 1]⟩ rfl D1 Z.m_order rfl G1 (by show _ ≤ 2 + n; omega) fun _ _ _ _ _ _ us ws h1 h2 => match us, ws, h1, h2 with | [_, _], [], _, _ => rfl
          · exact call_of ⟨75, "holds", 2, [], [0, 1]⟩ rfl D2 Z.m_holds rfl G2 (by show _ ≤ 2 + n; omega) fun _ _ _ _ _ _ us ws h1 h2 => match us, ws, h1, h2 with | [_, _], [], _, _ => rfl
        csts := fun c hc => by
          simp only [List.mem_cons, List.not_mem_nil, or_false] at hc
          rcases hc with rfl
          · exact Z.c_COMPARED
        errs := Z.er.sub (show ∀ e ∈ nc_holds.errs, e ∈ es by decide)
      }
    obtain ⟨fd, F⟩ := Z.d_holds
    rw [F_holds_s]
    exact ⟨fd, F, fn_run (l := ly K) (nc := { nc_holds with k := 2 + n }) F sc_holds gl (by rw [chkS_k nc_holds (defScope (top 11)) (k := 2 + n) (by show decide (0 < 2 + n) = decide (0 < 2); rw [decide_eq_true (show 0 < 2 + n by omega)]; rfl) b_holds (by decide)]; exact ck_holds)⟩
theorem g__law_pick (Z : Facts P K mg) : ∃ fd, FnP K "_law_pick" (top 15) (He.ga K "_law_pick") fd ∧ FnG P w K mg base 2 (He.ga K "_law_pick") fd ["_law_bowl_here", "_law_items"] (spF (ly K) F__law_pick 2) := by
  obtain ⟨fd0, D0, G0⟩ := g__law_draw (P := P) (w := w) (base := base) Z
  have gl : Glob P w mg base (ly K) nc__law_pick fe__law_pick :=
    { mgn := Z.gb
      gcd := fun h => nomatch h
      pats := fun p hp => by
        simp only [List.mem_cons, List.not_mem_nil, or_false] at hp
        rcases hp with rfl
        · exact call_of ⟨0, "_law_draw", 2, [], [0, 1]⟩ rfl D0 Z.m__law_draw rfl G0 (by decide) fun _ _ _ _ _ _ us ws h1 h2 => match us, ws, h1, h2 with | [_, _], [], _, _ => rfl
      csts := fun c hc => by
        cases hc
      errs := Z.er.sub (by decide)
    }
  obtain ⟨fd, F⟩ := Z.d__law_pick
  unfold F__law_pick
  exact ⟨fd, F, fn_run (l := ly K) (nc := nc__law_pick) F sc__law_pick gl ck__law_pick⟩
theorem g__law_low (Z : Facts P K mg) : ∃ fd, FnP K "_law_low" (top 16) (He.ga K "_law_low") fd ∧ FnG P w K mg base 1 (He.ga K "_law_low") fd ["_law_top", "_law_bottom"] (spF (ly K) F__law_low 2) := by
  have gl : Glob P w mg base (ly K) nc__law_low fe__law_low :=
    { mgn := Z.gb
      gcd := fun h => nomatch h
      pats := fun p hp => by
        cases hp
      csts := fun c hc => by
        cases hc
      errs := Z.er.sub (by decide)
    }
  obtain ⟨fd, F⟩ := Z.d__law_low
  unfold F__law_low
  exact ⟨fd, F, fn_run (l := ly K) (nc := nc__law_low) F sc__law_low gl ck__law_low⟩
theorem g__law_total (Z : Facts P K mg) : ∃ fd, FnP K "_law_total" (top 17) (He.ga K "_law_total") fd ∧ FnG P w K mg base 2 (He.ga K "_law_total") fd ["_law_pairs"] (spF (ly K) F__law_total 1) := by
  obtain ⟨fd0, D0, G0⟩ := g__law_low (P := P) (w := w) (base := base) Z
  have gl : Glob P w mg base (ly K) nc__law_total fe__law_total :=
    { mgn := Z.gb
      gcd := fun h => nomatch h
      pats := fun p hp => by
        simp only [List.mem_cons, List.not_mem_nil, or_false] at hp
        rcases hp with rfl
        · exact call_of ⟨57, "_law_low", 2, [], [0, 1]⟩ rfl D0 Z.m__law_low rfl G0 (by decide) fun _ _ _ _ _ _ us ws h1 h2 => match us, ws, h1, h2 with | [_, _], [], _, _ => rfl
      csts := fun c hc => by
        cases hc
      errs := Z.er.sub (by decide)
    }
  obtain ⟨fd, F⟩ := Z.d__law_total
  unfold F__law_total
  exact ⟨fd, F, fn_run (l := ly K) (nc := nc__law_total) F sc__law_total gl ck__law_total⟩
theorem g__law_is_true (Z : Facts P K mg) : ∃ fd, FnP K "_law_is_true" (top 18) (He.ga K "_law_is_true") fd ∧ FnG P w K mg base 1 (He.ga K "_law_is_true") fd ["_law_one", "_law_word", "_law_two"] (spF (ly K) F__law_is_true 3) := by
  have gl : Glob P w mg base (ly K) nc__law_is_true fe__law_is_true :=
    { mgn := Z.gb
      gcd := fun h => nomatch h
      pats := fun p hp => by
        cases hp
      csts := fun c hc => by
        cases hc
      errs := Z.er.sub (by decide)
    }
  obtain ⟨fd, F⟩ := Z.d__law_is_true
  unfold F__law_is_true
  exact ⟨fd, F, fn_run (l := ly K) (nc := nc__law_is_true) F sc__law_is_true gl ck__law_is_true⟩
theorem g__law_fraction (Z : Facts P K mg) : ∃ fd, FnP K "_law_fraction" (top 19) (He.ga K "_law_fraction") fd ∧ FnG P w K mg base 3 (He.ga K "_law_fraction") fd ["_law_bowl_here", "_law_far", "_law_deep_here"] (spF (ly K) F__law_fraction 3) := by
  obtain ⟨fd0, D0, G0⟩ := g__law_pick (P := P) (w := w) (base := base) Z
  obtain ⟨fd1, D1, G1⟩ := g__law_draw (P := P) (w := w) (base := base) Z
  obtain ⟨fd2, D2, G2⟩ := g__law_low (P := P) (w := w) (base := base) Z
  have gl : Glob P w mg base (ly K) nc__law_fraction fe__law_fraction :=
    { mgn := Z.gb
      gcd := fun h => nomatch h
      pats := fun p hp => by
        simp only [List.mem_cons, List.not_mem_nil, or_false] at hp
        rcases hp with rfl | rfl | rfl
        · exact call_of ⟨56, "_law_pick", 2, [], [0, 1]⟩ rfl D0 Z.m__law_pick rfl G0 (by decide) fun _ _ _ _ _ _ us ws h1 h2 => match us, ws, h1, h2 with | [_, _], [], _, _ => rfl
        · exact call_of ⟨0, "_law_draw", 2, [], [0, 1]⟩ rfl D1 Z.m__law_draw rfl G1 (by decide) fun _ _ _ _ _ _ us ws h1 h2 => match us, ws, h1, h2 with | [_, _], [], _, _ => rfl
        · exact call_of ⟨57, "_law_low", 2, [], [0, 1]⟩ rfl D2 Z.m__law_low rfl G2 (by decide) fun _ _ _ _ _ _ us ws h1 h2 => match us, ws, h1, h2 with | [_, _], [], _, _ => rfl
      csts := fun c hc => by
        cases hc
      errs := Z.er.sub (by decide)
    }
  obtain ⟨fd, F⟩ := Z.d__law_fraction
  unfold F__law_fraction
  exact ⟨fd, F, fn_run (l := ly K) (nc := nc__law_fraction) F sc__law_fraction gl ck__law_fraction⟩
theorem g__law_name (Z : Facts P K mg) : ∃ fd, FnP K "_law_name" (top 20) (He.ga K "_law_name") fd ∧ FnG P w K mg base 3 (He.ga K "_law_name") fd ["_law_bowl_here", "_law_top"] (spF (ly K) F__law_name 2) := by
  obtain ⟨fd0, D0, G0⟩ := g__law_pick (P := P) (w := w) (base := base) Z
  obtain ⟨fd1, D1, G1⟩ := g__law_draw (P := P) (w := w) (base := base) Z
  have gl : Glob P w mg base (ly K) nc__law_name fe__law_name :=
    { mgn := Z.gb
      gcd := fun h => nomatch h
      pats := fun p hp => by
        simp only [List.mem_cons, List.not_mem_nil, or_false] at hp
        rcases hp with rfl | rfl
        · exact call_of ⟨56, "_law_pick", 2, [], [0, 1]⟩ rfl D0 Z.m__law_pick rfl G0 (by decide) fun _ _ _ _ _ _ us ws h1 h2 => match us, ws, h1, h2 with | [_, _], [], _, _ => rfl
        · exact call_of ⟨0, "_law_draw", 2, [], [0, 1]⟩ rfl D1 Z.m__law_draw rfl G1 (by decide) fun _ _ _ _ _ _ us ws h1 h2 => match us, ws, h1, h2 with | [_, _], [], _, _ => rfl
      csts := fun c hc => by
        cases hc
      errs := Z.er.sub (by decide)
    }
  obtain ⟨fd, F⟩ := Z.d__law_name
  unfold F__law_name
  exact ⟨fd, F, fn_run (l := ly K) (nc := nc__law_name) F sc__law_name gl ck__law_name⟩
theorem g__law_line (Z : Facts P K mg) : ∃ fd, FnP K "_law_line" (top 21) (He.ga K "_law_line") fd ∧ FnG P w K mg base 4 (He.ga K "_law_line") fd ["_law_bowl_here", "_law_top", "_law_word"] (spF (ly K) F__law_line 3) := by
  obtain ⟨fd0, D0, G0⟩ := g__law_name (P := P) (w := w) (base := base) Z
  obtain ⟨fd1, D1, G1⟩ := g__law_fraction (P := P) (w := w) (base := base) Z
  obtain ⟨fd2, D2, G2⟩ := g__law_draw (P := P) (w := w) (base := base) Z
  obtain ⟨fd3, D3, G3⟩ := g__law_pick (P := P) (w := w) (base := base) Z
  have gl : Glob P w mg base (ly K) nc__law_line fe__law_line :=
    { mgn := Z.gb
      gcd := fun h => nomatch h
      pats := fun p hp => by
        simp only [List.mem_cons, List.not_mem_nil, or_false] at hp
        rcases hp with rfl | rfl | rfl | rfl
        · exact call_of ⟨60, "_law_name", 2, [], [0, 1]⟩ rfl D0 Z.m__law_name rfl G0 (by decide) fun _ _ _ _ _ _ us ws h1 h2 => match us, ws, h1, h2 with | [_, _], [], _, _ => rfl
        · exact call_of ⟨17, "_law_fraction", 3, [], [0, 1, 2]⟩ rfl D1 Z.m__law_fraction rfl G1 (by decide) fun _ _ _ _ _ _ us ws h1 h2 => match us, ws, h1, h2 with | [_, _, _], [], _, _ => rfl
        · exact call_of ⟨0, "_law_draw", 2, [], [0, 1]⟩ rfl D2 Z.m__law_draw rfl G2 (by decide) fun _ _ _ _ _ _ us ws h1 h2 => match us, ws, h1, h2 with | [_, _], [], _, _ => rfl
        · exact call_of ⟨56, "_law_pick", 2, [], [0, 1]⟩ rfl D3 Z.m__law_pick rfl G3 (by decide) fun _ _ _ _ _ _ us ws h1 h2 => match us, ws, h1, h2 with | [_, _], [], _, _ => rfl
      csts := fun c hc => by
        cases hc
      errs := Z.er.sub (by decide)
    }
  obtain ⟨fd, F⟩ := Z.d__law_line
  unfold F__law_line
  exact ⟨fd, F, fn_run (l := ly K) (nc := nc__law_line) F sc__law_line gl ck__law_line⟩
theorem g__law_program (Z : Facts P K mg) : ∃ fd, FnP K "_law_program" (top 22) (He.ga K "_law_program") fd ∧ FnG P w K mg base 5 (He.ga K "_law_program") fd ["_law_bowl_here", "_law_wide", "_law_words"] (spF (ly K) F__law_program 3) := by
  obtain ⟨fd0, D0, G0⟩ := g__law_line (P := P) (w := w) (base := base) Z
  have gl : Glob P w mg base (ly K) nc__law_program fe__law_program :=
    { mgn := Z.gb
      gcd := fun h => nomatch h
      pats := fun p hp => by
        simp only [List.mem_cons, List.not_mem_nil, or_false] at hp
        rcases hp with rfl
        · exact call_of ⟨61, "_law_line", 3, [], [0, 1, 2]⟩ rfl D0 Z.m__law_line rfl G0 (by decide) fun _ _ _ _ _ _ us ws h1 h2 => match us, ws, h1, h2 with | [_, _, _], [], _, _ => rfl
      csts := fun c hc => by
        cases hc
      errs := Z.er.sub (by decide)
    }
  obtain ⟨fd, F⟩ := Z.d__law_program
  unfold F__law_program
  exact ⟨fd, F, fn_run (l := ly K) (nc := nc__law_program) F sc__law_program gl ck__law_program⟩
theorem g__law_walk (Z : Facts P K mg) : ∃ fd, FnP K "_law_walk" (top 23) (He.ga K "_law_walk") fd ∧ FnG P w K mg base 3 (He.ga K "_law_walk") fd ["_law_lines", "_law_spot", "_law_tick"] (spF (ly K) F__law_walk 3) := by
  obtain ⟨fd0, D0, G0⟩ := g__law_total (P := P) (w := w) (base := base) Z
  obtain ⟨fd1, D1, G1⟩ := g__law_is_true (P := P) (w := w) (base := base) Z
  have gl : Glob P w mg base (ly K) nc__law_walk fe__law_walk :=
    { mgn := Z.gb
      gcd := fun h => nomatch h
      pats := fun p hp => by
        simp only [List.mem_cons, List.not_mem_nil, or_false] at hp
        rcases hp with rfl | rfl
        · exact call_of ⟨58, "_law_total", 1, [], [0]⟩ rfl D0 Z.m__law_total rfl G0 (by decide) fun _ _ _ _ _ _ us ws h1 h2 => match us, ws, h1, h2 with | [_], [], _, _ => rfl
        · exact call_of ⟨59, "_law_is_true", 3, [], [0, 1, 2]⟩ rfl D1 Z.m__law_is_true rfl G1 (by decide) fun _ _ _ _ _ _ us ws h1 h2 => match us, ws, h1, h2 with | [_, _, _], [], _, _ => rfl
      csts := fun c hc => by
        cases hc
      errs := Z.er.sub (by decide)
    }
  obtain ⟨fd, F⟩ := Z.d__law_walk
  unfold F__law_walk
  exact ⟨fd, F, fn_run (l := ly K) (nc := nc__law_walk) F sc__law_walk gl ck__law_walk⟩
theorem g__law_tree (Z : Facts P K mg) : ∃ fd, FnP K "_law_tree" (top 24) (He.ga K "_law_tree") fd ∧ FnG P w K mg base 3 (He.ga K "_law_tree") fd ["_law_bowl_here", "_law_parts"] (spF (ly K) F__law_tree 2) := by
  obtain ⟨fd0, D0, G0⟩ := g__law_draw (P := P) (w := w) (base := base) Z
  obtain ⟨fd1, D1, G1⟩ := g__law_pick (P := P) (w := w) (base := base) Z
  have gl : Glob P w mg base (ly K) nc__law_tree fe__law_tree :=
    { mgn := Z.gb
      gcd := fun h => nomatch h
      pats := fun p hp => by
        simp only [List.mem_cons, List.not_mem_nil, or_false] at hp
        rcases hp with rfl | rfl
        · exact call_of ⟨0, "_law_draw", 2, [], [0, 1]⟩ rfl D0 Z.m__law_draw rfl G0 (by decide) fun _ _ _ _ _ _ us ws h1 h2 => match us, ws, h1, h2 with | [_, _], [], _, _ => rfl
        · exact call_of ⟨56, "_law_pick", 2, [], [0, 1]⟩ rfl D1 Z.m__law_pick rfl G1 (by decide) fun _ _ _ _ _ _ us ws h1 h2 => match us, ws, h1, h2 with | [_, _], [], _, _ => rfl
      csts := fun c hc => by
        cases hc
      errs := Z.er.sub (by decide)
    }
  obtain ⟨fd, F⟩ := Z.d__law_tree
  unfold F__law_tree
  exact ⟨fd, F, fn_run (l := ly K) (nc := nc__law_tree) F sc__law_tree gl ck__law_tree⟩
theorem g__law_truth (Z : Facts P K mg) : ∀ n : Nat, ∃ fd, FnP K "_law_truth" (top 25) (He.ga K "_law_truth") fd ∧ FnG P w K mg base (2 + n) (He.ga K "_law_truth") fd ["_law_claim", "_law_known_here"] (spF (ly K) (F__law_truth n) 2)
  | 0 => by
    obtain ⟨fd, F⟩ := Z.d__law_truth
    rw [F__law_truth_z]
    exact ⟨fd, F, fn_none (l := ly K) F sc__law_truth⟩
  | n + 1 => by
    obtain ⟨fd0, D0, G0⟩ := g__law_truth Z n
    obtain ⟨fd1, D1, G1⟩ := g__law_is_true (P := P) (w := w) (base := base) Z
    have gl : Glob P w mg base (ly K) { nc__law_truth with k := 2 + n } (fe__law_truth (F__law_truth n)) :=
      { mgn := Z.gb
        gcd := fun h => nomatch h
        pats := fun p hp => by
          simp only [List.mem_cons, List.not_mem_nil, or_false] at hp
          rcases hp with rfl | rfl
          · exact call_of ⟨77, "_law_truth", 2, [], [0, 1]⟩ rfl D0 Z.m__law_truth rfl G0 (by show _ ≤ 2 + n; omega) fun _ _ _ _ _ _ us ws h1 h2 => match us, ws, h1, h2 with | [_, _], [], _, _ => rfl
          · exact call_of ⟨59, "_law_is_true", 3, [], [0, 1, 2]⟩ rfl D1 Z.m__law_is_true rfl G1 (by show _ ≤ 2 + n; omega) fun _ _ _ _ _ _ us ws h1 h2 => match us, ws, h1, h2 with | [_, _, _], [], _, _ => rfl
        csts := fun c hc => by
          cases hc
        errs := Z.er.sub (show ∀ e ∈ nc__law_truth.errs, e ∈ es by decide)
      }
    obtain ⟨fd, F⟩ := Z.d__law_truth
    rw [F__law_truth_s]
    exact ⟨fd, F, fn_run (l := ly K) (nc := { nc__law_truth with k := 2 + n }) F sc__law_truth gl (by rw [chkS_k nc__law_truth (defScope (top 25)) (k := 2 + n) (by show decide (0 < 2 + n) = decide (0 < 2); rw [decide_eq_true (show 0 < 2 + n by omega)]; rfl) b__law_truth (by decide)]; exact ck__law_truth)⟩
theorem g__law_contrary (Z : Facts P K mg) : ∀ n : Nat, ∃ fd, FnP K "_law_contrary" (top 26) (He.ga K "_law_contrary") fd ∧ FnG P w K mg base (1 + n) (He.ga K "_law_contrary") fd ["_law_claim", "_law_is_split"] (spF (ly K) (F__law_contrary n) 2)
  | 0 => by
    obtain ⟨fd, F⟩ := Z.d__law_contrary
    rw [F__law_contrary_z]
    exact ⟨fd, F, fn_none (l := ly K) F sc__law_contrary⟩
  | n + 1 => by
    obtain ⟨fd0, D0, G0⟩ := g__law_contrary Z n
    have gl : Glob P w mg base (ly K) { nc__law_contrary with k := 1 + n } (fe__law_contrary (F__law_contrary n)) :=
      { mgn := Z.gb
        gcd := fun h => nomatch h
        pats := fun p hp => by
          simp only [List.mem_cons, List.not_mem_nil, or_false] at hp
          rcases hp with rfl
          · exact call_of ⟨78, "_law_contrary", 2, [], [0, 1]⟩ rfl D0 Z.m__law_contrary rfl G0 (by show _ ≤ 1 + n; omega) fun _ _ _ _ _ _ us ws h1 h2 => match us, ws, h1, h2 with | [_, _], [], _, _ => rfl
        csts := fun c hc => by
          cases hc
        errs := Z.er.sub (show ∀ e ∈ nc__law_contrary.errs, e ∈ es by decide)
      }
    obtain ⟨fd, F⟩ := Z.d__law_contrary
    rw [F__law_contrary_s]
    exact ⟨fd, F, fn_run (l := ly K) (nc := { nc__law_contrary with k := 1 + n }) F sc__law_contrary gl (by rw [chkS_k nc__law_contrary (defScope (top 26)) (k := 1 + n) (by show decide (0 < 1 + n) = decide (0 < 1); rw [decide_eq_true (show 0 < 1 + n by omega)]; rfl) b__law_contrary (by decide)]; exact ck__law_contrary)⟩
theorem g__law_many (Z : Facts P K mg) : ∀ n : Nat, ∃ fd, FnP K "_law_many" (top 27) (He.ga K "_law_many") fd ∧ FnG P w K mg base (1 + n) (He.ga K "_law_many") fd ["_law_claim"] (spF (ly K) (F__law_many n) 1)
  | 0 => by
    obtain ⟨fd, F⟩ := Z.d__law_many
    rw [F__law_many_z]
    exact ⟨fd, F, fn_none (l := ly K) F sc__law_many⟩
  | n + 1 => by
    obtain ⟨fd0, D0, G0⟩ := g__law_many Z n
    have gl : Glob P w mg base (ly K) { nc__law_many with k := 1 + n } (fe__law_many (F__law_many n)) :=
      { mgn := Z.gb
        gcd := fun h => nomatch h
        pats := fun p hp => by
          simp only [List.mem_cons, List.not_mem_nil, or_false] at hp
          rcases hp with rfl
          · exact call_of ⟨79, "_law_many", 1, [], [0]⟩ rfl D0 Z.m__law_many rfl G0 (by show _ ≤ 1 + n; omega) fun _ _ _ _ _ _ us ws h1 h2 => match us, ws, h1, h2 with | [_], [], _, _ => rfl
        csts := fun c hc => by
          cases hc
        errs := Z.er.sub (show ∀ e ∈ nc__law_many.errs, e ∈ es by decide)
      }
    obtain ⟨fd, F⟩ := Z.d__law_many
    rw [F__law_many_s]
    exact ⟨fd, F, fn_run (l := ly K) (nc := { nc__law_many with k := 1 + n }) F sc__law_many gl (by rw [chkS_k nc__law_many (defScope (top 27)) (k := 1 + n) (by show decide (0 < 1 + n) = decide (0 < 1); rw [decide_eq_true (show 0 < 1 + n by omega)]; rfl) b__law_many (by decide)]; exact ck__law_many)⟩
theorem g__law_deep (Z : Facts P K mg) : ∀ n : Nat, ∃ fd, FnP K "_law_deep" (top 28) (He.ga K "_law_deep") fd ∧ FnG P w K mg base (1 + n) (He.ga K "_law_deep") fd ["_law_claim"] (spF (ly K) (F__law_deep n) 1)
  | 0 => by
    obtain ⟨fd, F⟩ := Z.d__law_deep
    rw [F__law_deep_z]
    exact ⟨fd, F, fn_none (l := ly K) F sc__law_deep⟩
  | n + 1 => by
    obtain ⟨fd0, D0, G0⟩ := g__law_deep Z n
    have gl : Glob P w mg base (ly K) { nc__law_deep with k := 1 + n } (fe__law_deep (F__law_deep n)) :=
      { mgn := Z.gb
        gcd := fun h => nomatch h
        pats := fun p hp => by
          simp only [List.mem_cons, List.not_mem_nil, or_false] at hp
          rcases hp with rfl
          · exact call_of ⟨80, "_law_deep", 1, [], [0]⟩ rfl D0 Z.m__law_deep rfl G0 (by show _ ≤ 1 + n; omega) fun _ _ _ _ _ _ us ws h1 h2 => match us, ws, h1, h2 with | [_], [], _, _ => rfl
        csts := fun c hc => by
          cases hc
        errs := Z.er.sub (show ∀ e ∈ nc__law_deep.errs, e ∈ es by decide)
      }
    obtain ⟨fd, F⟩ := Z.d__law_deep
    rw [F__law_deep_s]
    exact ⟨fd, F, fn_run (l := ly K) (nc := { nc__law_deep with k := 1 + n }) F sc__law_deep gl (by rw [chkS_k nc__law_deep (defScope (top 28)) (k := 1 + n) (by show decide (0 < 1 + n) = decide (0 < 1); rw [decide_eq_true (show 0 < 1 + n by omega)]; rfl) b__law_deep (by decide)]; exact ck__law_deep)⟩
theorem g__law_known (Z : Facts P K mg) : ∃ fd, FnP K "_law_known" (top 29) (He.ga K "_law_known") fd ∧ FnG P w K mg base 4 (He.ga K "_law_known") fd ["_law_bowl_here"] (spF (ly K) F__law_known 1) := by
  obtain ⟨fd0, D0, G0⟩ := g__law_fraction (P := P) (w := w) (base := base) Z
  obtain ⟨fd1, D1, G1⟩ := g__law_low (P := P) (w := w) (base := base) Z
  obtain ⟨fd2, D2, G2⟩ := g__law_pick (P := P) (w := w) (base := base) Z
  obtain ⟨fd3, D3, G3⟩ := g__law_draw (P := P) (w := w) (base := base) Z
  have gl : Glob P w mg base (ly K) nc__law_known fe__law_known :=
    { mgn := Z.gb
      gcd := fun h => nomatch h
      pats := fun p hp => by
        simp only [List.mem_cons, List.not_mem_nil, or_false] at hp
        rcases hp with rfl | rfl | rfl | rfl
        · exact call_of ⟨17, "_law_fraction", 3, [], [0, 1, 2]⟩ rfl D0 Z.m__law_fraction rfl G0 (by decide) fun _ _ _ _ _ _ us ws h1 h2 => match us, ws, h1, h2 with | [_, _, _], [], _, _ => rfl
        · exact call_of ⟨57, "_law_low", 2, [], [0, 1]⟩ rfl D1 Z.m__law_low rfl G1 (by decide) fun _ _ _ _ _ _ us ws h1 h2 => match us, ws, h1, h2 with | [_, _], [], _, _ => rfl
        · exact call_of ⟨56, "_law_pick", 2, [], [0, 1]⟩ rfl D2 Z.m__law_pick rfl G2 (by decide) fun _ _ _ _ _ _ us ws h1 h2 => match us, ws, h1, h2 with | [_, _], [], _, _ => rfl
        · exact call_of ⟨0, "_law_draw", 2, [], [0, 1]⟩ rfl D3 Z.m__law_draw rfl G3 (by decide) fun _ _ _ _ _ _ us ws h1 h2 => match us, ws, h1, h2 with | [_, _], [], _, _ => rfl
      csts := fun c hc => by
        cases hc
      errs := Z.er.sub (by decide)
    }
  obtain ⟨fd, F⟩ := Z.d__law_known
  unfold F__law_known
  exact ⟨fd, F, fn_run (l := ly K) (nc := nc__law_known) F sc__law_known gl ck__law_known⟩
theorem g__law_leaves (Z : Facts P K mg) : ∃ fd, FnP K "_law_leaves" (top 30) (He.ga K "_law_leaves") fd ∧ FnG P w K mg base 3 (He.ga K "_law_leaves") fd ["_law_bowl_here", "_law_many_here"] (spF (ly K) F__law_leaves 2) := by
  obtain ⟨fd0, D0, G0⟩ := g__law_draw (P := P) (w := w) (base := base) Z
  obtain ⟨fd1, D1, G1⟩ := g__law_pick (P := P) (w := w) (base := base) Z
  have gl : Glob P w mg base (ly K) nc__law_leaves fe__law_leaves :=
    { mgn := Z.gb
      gcd := fun h => nomatch h
      pats := fun p hp => by
        simp only [List.mem_cons, List.not_mem_nil, or_false] at hp
        rcases hp with rfl | rfl
        · exact call_of ⟨0, "_law_draw", 2, [], [0, 1]⟩ rfl D0 Z.m__law_draw rfl G0 (by decide) fun _ _ _ _ _ _ us ws h1 h2 => match us, ws, h1, h2 with | [_, _], [], _, _ => rfl
        · exact call_of ⟨56, "_law_pick", 2, [], [0, 1]⟩ rfl D1 Z.m__law_pick rfl G1 (by decide) fun _ _ _ _ _ _ us ws h1 h2 => match us, ws, h1, h2 with | [_, _], [], _, _ => rfl
      csts := fun c hc => by
        cases hc
      errs := Z.er.sub (by decide)
    }
  obtain ⟨fd, F⟩ := Z.d__law_leaves
  unfold F__law_leaves
  exact ⟨fd, F, fn_run (l := ly K) (nc := nc__law_leaves) F sc__law_leaves gl ck__law_leaves⟩
theorem g__law_is_told (Z : Facts P K mg) : ∃ fd, FnP K "_law_is_told" (top 31) (He.ga K "_law_is_told") fd ∧ FnG P w K mg base 53 (He.ga K "_law_is_told") fd ["_law_claim", "_law_known_here", "_law_due"] (spF (ly K) F__law_is_told 3) := by
  obtain ⟨fd0, D0, G0⟩ := g_holds (P := P) (w := w) (base := base) Z 50
  obtain ⟨fd1, D1, G1⟩ := g_holds (P := P) (w := w) (base := base) Z 50
  have gl : Glob P w mg base (ly K) nc__law_is_told fe__law_is_told :=
    { mgn := Z.gb
      gcd := fun h => nomatch h
      pats := fun p hp => by
        simp only [List.mem_cons, List.not_mem_nil, or_false] at hp
        rcases hp with rfl | rfl
        · exact call_of ⟨75, "holds", 2, [], [0, 1]⟩ rfl D0 Z.m_holds rfl G0 (by decide) fun _ _ _ _ _ _ us ws h1 h2 => match us, ws, h1, h2 with | [_, _], [], _, _ => rfl
        · exact call_of ⟨75, "holds", 0, ["values", "saying"], [1, 0]⟩ rfl D1 Z.m_holds rfl G1 (by decide) fun _ _ _ _ _ _ us ws h1 h2 => match us, ws, h1, h2 with | [], [_, _], _, _ => rfl
      csts := fun c hc => by
        cases hc
      errs := Z.er.sub (by decide)
    }
  obtain ⟨fd, F⟩ := Z.d__law_is_told
  unfold F__law_is_told
  exact ⟨fd, F, fn_run (l := ly K) (nc := nc__law_is_told) F sc__law_is_told gl ck__law_is_told⟩
theorem g__law_by_truth (Z : Facts P K mg) : ∃ fd, FnP K "_law_by_truth" (top 32) (He.ga K "_law_by_truth") fd ∧ FnG P w K mg base 54 (He.ga K "_law_by_truth") fd ["_law_bowl_here", "_law_known_here"] (spF (ly K) F__law_by_truth 2) := by
  obtain ⟨fd0, D0, G0⟩ := g__law_tree (P := P) (w := w) (base := base) Z
  obtain ⟨fd1, D1, G1⟩ := g__law_leaves (P := P) (w := w) (base := base) Z
  obtain ⟨fd2, D2, G2⟩ := g__law_truth (P := P) (w := w) (base := base) Z 50
  obtain ⟨fd3, D3, G3⟩ := g__law_contrary (P := P) (w := w) (base := base) Z 50
  obtain ⟨fd4, D4, G4⟩ := g__law_many (P := P) (w := w) (base := base) Z 50
  obtain ⟨fd5, D5, G5⟩ := g__law_pick (P := P) (w := w) (base := base) Z
  obtain ⟨fd6, D6, G6⟩ := g__law_deep (P := P) (w := w) (base := base) Z 50
  obtain ⟨fd7, D7, G7⟩ := g__law_is_told (P := P) (w := w) (base := base) Z
  obtain ⟨fd8, D8, G8⟩ := g__law_draw (P := P) (w := w) (base := base) Z
  obtain ⟨fd9, D9, G9⟩ := g_holds (P := P) (w := w) (base := base) Z 50
  have gl : Glob P w mg base (ly K) nc__law_by_truth fe__law_by_truth :=
    { mgn := Z.gb
      gcd := fun h => nomatch h
      pats := fun p hp => by
        simp only [List.mem_cons, List.not_mem_nil, or_false] at hp
        rcases hp with rfl | rfl | rfl | rfl | rfl | rfl | rfl | rfl | rfl | rfl
        · exact call_of ⟨76, "_law_tree", 2, [], [0, 1]⟩ rfl D0 Z.m__law_tree rfl G0 (by decide) fun _ _ _ _ _ _ us ws h1 h2 => match us, ws, h1, h2 with | [_, _], [], _, _ => rfl
        · exact call_of ⟨82, "_law_leaves", 2, [], [0, 1]⟩ rfl D1 Z.m__law_leaves rfl G1 (by decide) fun _ _ _ _ _ _ us ws h1 h2 => match us, ws, h1, h2 with | [_, _], [], _, _ => rfl
        · exact call_of ⟨77, "_law_truth", 2, [], [0, 1]⟩ rfl D2 Z.m__law_truth rfl G2 (by decide) fun _ _ _ _ _ _ us ws h1 h2 => match us, ws, h1, h2 with | [_, _], [], _, _ => rfl
        · exact call_of ⟨78, "_law_contrary", 2, [], [0, 1]⟩ rfl D3 Z.m__law_contrary rfl G3 (by decide) fun _ _ _ _ _ _ us ws h1 h2 => match us, ws, h1, h2 with | [_, _], [], _, _ => rfl
        · exact call_of ⟨79, "_law_many", 1, [], [0]⟩ rfl D4 Z.m__law_many rfl G4 (by decide) fun _ _ _ _ _ _ us ws h1 h2 => match us, ws, h1, h2 with | [_], [], _, _ => rfl
        · exact call_of ⟨56, "_law_pick", 2, [], [0, 1]⟩ rfl D5 Z.m__law_pick rfl G5 (by decide) fun _ _ _ _ _ _ us ws h1 h2 => match us, ws, h1, h2 with | [_, _], [], _, _ => rfl
        · exact call_of ⟨80, "_law_deep", 1, [], [0]⟩ rfl D6 Z.m__law_deep rfl G6 (by decide) fun _ _ _ _ _ _ us ws h1 h2 => match us, ws, h1, h2 with | [_], [], _, _ => rfl
        · exact call_of ⟨83, "_law_is_told", 3, [], [0, 1, 2]⟩ rfl D7 Z.m__law_is_told rfl G7 (by decide) fun _ _ _ _ _ _ us ws h1 h2 => match us, ws, h1, h2 with | [_, _, _], [], _, _ => rfl
        · exact call_of ⟨0, "_law_draw", 2, [], [0, 1]⟩ rfl D8 Z.m__law_draw rfl G8 (by decide) fun _ _ _ _ _ _ us ws h1 h2 => match us, ws, h1, h2 with | [_, _], [], _, _ => rfl
        · exact call_of ⟨75, "holds", 2, [], [0, 1]⟩ rfl D9 Z.m_holds rfl G9 (by decide) fun _ _ _ _ _ _ us ws h1 h2 => match us, ws, h1, h2 with | [_, _], [], _, _ => rfl
      csts := fun c hc => by
        cases hc
      errs := Z.er.sub (by decide)
    }
  obtain ⟨fd, F⟩ := Z.d__law_by_truth
  unfold F__law_by_truth
  exact ⟨fd, F, fn_run (l := ly K) (nc := nc__law_by_truth) F sc__law_by_truth gl ck__law_by_truth⟩
theorem g__law_by_choices (Z : Facts P K mg) : ∃ fd, FnP K "_law_by_choices" (top 33) (He.ga K "_law_by_choices") fd ∧ FnG P w K mg base 55 (He.ga K "_law_by_choices") fd ["_law_bowl_here"] (spF (ly K) F__law_by_choices 1) := by
  obtain ⟨fd0, D0, G0⟩ := g__law_draw (P := P) (w := w) (base := base) Z
  obtain ⟨fd1, D1, G1⟩ := g__law_pick (P := P) (w := w) (base := base) Z
  obtain ⟨fd2, D2, G2⟩ := g__law_program (P := P) (w := w) (base := base) Z
  obtain ⟨fd3, D3, G3⟩ := g__law_fraction (P := P) (w := w) (base := base) Z
  obtain ⟨fd4, D4, G4⟩ := g_run (P := P) (w := w) (base := base) Z
  obtain ⟨fd5, D5, G5⟩ := g__law_walk (P := P) (w := w) (base := base) Z
  obtain ⟨fd6, D6, G6⟩ := g__law_is_told (P := P) (w := w) (base := base) Z
  obtain ⟨fd7, D7, G7⟩ := g__law_by_truth (P := P) (w := w) (base := base) Z
  have gl : Glob P w mg base (ly K) nc__law_by_choices fe__law_by_choices :=
    { mgn := Z.gb
      gcd := fun h => nomatch h
      pats := fun p hp => by
        simp only [List.mem_cons, List.not_mem_nil, or_false] at hp
        rcases hp with rfl | rfl | rfl | rfl | rfl | rfl | rfl | rfl
        · exact call_of ⟨0, "_law_draw", 2, [], [0, 1]⟩ rfl D0 Z.m__law_draw rfl G0 (by decide) fun _ _ _ _ _ _ us ws h1 h2 => match us, ws, h1, h2 with | [_, _], [], _, _ => rfl
        · exact call_of ⟨56, "_law_pick", 2, [], [0, 1]⟩ rfl D1 Z.m__law_pick rfl G1 (by decide) fun _ _ _ _ _ _ us ws h1 h2 => match us, ws, h1, h2 with | [_, _], [], _, _ => rfl
        · exact call_of ⟨62, "_law_program", 3, [], [0, 1, 2]⟩ rfl D2 Z.m__law_program rfl G2 (by decide) fun _ _ _ _ _ _ us ws h1 h2 => match us, ws, h1, h2 with | [_, _, _], [], _, _ => rfl
        · exact call_of ⟨17, "_law_fraction", 3, [], [0, 1, 2]⟩ rfl D3 Z.m__law_fraction rfl G3 (by decide) fun _ _ _ _ _ _ us ws h1 h2 => match us, ws, h1, h2 with | [_, _, _], [], _, _ => rfl
        · exact call_of ⟨55, "run", 3, [], [0, 1, 2]⟩ rfl D4 Z.m_run rfl G4 (by decide) fun _ _ _ _ _ _ us ws h1 h2 => match us, ws, h1, h2 with | [_, _, _], [], _, _ => rfl
        · exact call_of ⟨63, "_law_walk", 3, [], [0, 1, 2]⟩ rfl D5 Z.m__law_walk rfl G5 (by decide) fun _ _ _ _ _ _ us ws h1 h2 => match us, ws, h1, h2 with | [_, _, _], [], _, _ => rfl
        · exact call_of ⟨83, "_law_is_told", 3, [], [0, 1, 2]⟩ rfl D6 Z.m__law_is_told rfl G6 (by decide) fun _ _ _ _ _ _ us ws h1 h2 => match us, ws, h1, h2 with | [_, _, _], [], _, _ => rfl
        · exact call_of ⟨84, "_law_by_truth", 2, [], [0, 1]⟩ rfl D7 Z.m__law_by_truth rfl G7 (by decide) fun _ _ _ _ _ _ us ws h1 h2 => match us, ws, h1, h2 with | [_, _], [], _, _ => rfl
      csts := fun c hc => by
        cases hc
      errs := Z.er.sub (by decide)
    }
  obtain ⟨fd, F⟩ := Z.d__law_by_choices
  unfold F__law_by_choices
  exact ⟨fd, F, fn_run (l := ly K) (nc := nc__law_by_choices) F sc__law_by_choices gl ck__law_by_choices⟩
theorem g_law (good : ex fe_law noX b_law (ρLaw (n_law.length - 2)) fun fl => fl = .rt (.d (.bool true))) (Z : Facts P K mg) : ∃ fd, FnP K "law" (top 34) (He.ga K "law") fd ∧ FnG P w K mg base 56 (He.ga K "law") fd ["_law_script"] (spLaw K) := by
  obtain ⟨fd0, D0, G0⟩ := g__law_by_truth (P := P) (w := w) (base := base) Z
  obtain ⟨fd1, D1, G1⟩ := g__law_known (P := P) (w := w) (base := base) Z
  obtain ⟨fd2, D2, G2⟩ := g__law_by_choices (P := P) (w := w) (base := base) Z
  obtain ⟨fd3, D3, G3⟩ := g_holds (P := P) (w := w) (base := base) Z 50
  have gl : Glob P w mg base (ly K) nc_law fe_law :=
    { mgn := Z.gb
      gcd := fun h => nomatch h
      pats := fun p hp => by
        simp only [List.mem_cons, List.not_mem_nil, or_false] at hp
        rcases hp with rfl | rfl | rfl | rfl
        · exact call_of ⟨84, "_law_by_truth", 2, [], [0, 1]⟩ rfl D0 Z.m__law_by_truth rfl G0 (by decide) fun _ _ _ _ _ _ us ws h1 h2 => match us, ws, h1, h2 with | [_, _], [], _, _ => rfl
        · exact call_of ⟨81, "_law_known", 1, [], [0]⟩ rfl D1 Z.m__law_known rfl G1 (by decide) fun _ _ _ _ _ _ us ws h1 h2 => match us, ws, h1, h2 with | [_], [], _, _ => rfl
        · exact call_of ⟨85, "_law_by_choices", 1, [], [0]⟩ rfl D2 Z.m__law_by_choices rfl G2 (by decide) fun _ _ _ _ _ _ us ws h1 h2 => match us, ws, h1, h2 with | [_], [], _, _ => rfl
        · exact call_of ⟨75, "holds", 2, [], [0, 1]⟩ rfl D3 Z.m_holds rfl G3 (by decide) fun _ _ _ _ _ _ us ws h1 h2 => match us, ws, h1, h2 with | [_, _], [], _, _ => rfl
      csts := fun c hc => by
        cases hc
      errs := Z.er.sub (by decide)
    }
  obtain ⟨fd, F⟩ := Z.d_law
  obtain ⟨fdS, FS⟩ := Z.d__law_bowl
  exact ⟨fd, F, law_fnG (κ := bowlK) (l := ly K) (nc := nc_law) (j := 1) rfl (by decide) F sc_law gl rfl rfl rfl (by decide +kernel) (by decide +kernel) (by decide +kernel) Z.m__law_bowl FS.kp (ok_source FS Z.gb) (by decide) (kb_of FS fun _ _ _ _ _ _ us ws h1 h2 => match us, ws, h1, h2 with | [_], [], _, _ => rfl) ck_law good⟩
end
/-! ### the head -/
def d_lowest : He.DefD := ⟨("lowest", none), "lowest", "lowest", defArgs (top 2), defBody (top 2), defScope (top 2), [], []⟩
def d_plus : He.DefD := ⟨("plus", none), "plus", "plus", defArgs (top 3), defBody (top 3), defScope (top 3), [], []⟩
def d_times : He.DefD := ⟨("times", none), "times", "times", defArgs (top 4), defBody (top 4), defScope (top 4), [], []⟩
def d_order : He.DefD := ⟨("order", none), "order", "order", defArgs (top 5), defBody (top 5), defScope (top 5), [], []⟩
def d_is_so : He.DefD := ⟨("is_so", none), "is_so", "is_so", defArgs (top 8), defBody (top 8), defScope (top 8), [], []⟩
def d__line_at : He.DefD := ⟨("_line_at", none), "_line_at", "_line_at", defArgs (top 9), defBody (top 9), defScope (top 9), [], []⟩
def d_run : He.DefD := ⟨("run", none), "run", "run", defArgs (top 10), defBody (top 10), defScope (top 10), [], []⟩
def d_holds : He.DefD := ⟨("holds", none), "holds", "holds", defArgs (top 11), defBody (top 11), defScope (top 11), [], []⟩
def d__law_bowl : He.DefD := ⟨("_law_bowl", none), "_law_bowl", "_law_bowl", defArgs (top 13), defBody (top 13), defScope (top 13), [], []⟩
def d__law_draw : He.DefD := ⟨("_law_draw", none), "_law_draw", "_law_draw", defArgs (top 14), defBody (top 14), defScope (top 14), [], []⟩
def d__law_pick : He.DefD := ⟨("_law_pick", none), "_law_pick", "_law_pick", defArgs (top 15), defBody (top 15), defScope (top 15), [], []⟩
def d__law_low : He.DefD := ⟨("_law_low", none), "_law_low", "_law_low", defArgs (top 16), defBody (top 16), defScope (top 16), [], []⟩
def d__law_total : He.DefD := ⟨("_law_total", none), "_law_total", "_law_total", defArgs (top 17), defBody (top 17), defScope (top 17), [], []⟩
def d__law_is_true : He.DefD := ⟨("_law_is_true", none), "_law_is_true", "_law_is_true", defArgs (top 18), defBody (top 18), defScope (top 18), [], []⟩
def d__law_fraction : He.DefD := ⟨("_law_fraction", none), "_law_fraction", "_law_fraction", defArgs (top 19), defBody (top 19), defScope (top 19), [], []⟩
def d__law_name : He.DefD := ⟨("_law_name", none), "_law_name", "_law_name", defArgs (top 20), defBody (top 20), defScope (top 20), [], []⟩
def d__law_line : He.DefD := ⟨("_law_line", none), "_law_line", "_law_line", defArgs (top 21), defBody (top 21), defScope (top 21), [], []⟩
def d__law_program : He.DefD := ⟨("_law_program", none), "_law_program", "_law_program", defArgs (top 22), defBody (top 22), defScope (top 22), [], []⟩
def d__law_walk : He.DefD := ⟨("_law_walk", none), "_law_walk", "_law_walk", defArgs (top 23), defBody (top 23), defScope (top 23), [], []⟩
def d__law_tree : He.DefD := ⟨("_law_tree", none), "_law_tree", "_law_tree", defArgs (top 24), defBody (top 24), defScope (top 24), [], []⟩
def d__law_truth : He.DefD := ⟨("_law_truth", none), "_law_truth", "_law_truth", defArgs (top 25), defBody (top 25), defScope (top 25), [], []⟩
def d__law_contrary : He.DefD := ⟨("_law_contrary", none), "_law_contrary", "_law_contrary", defArgs (top 26), defBody (top 26), defScope (top 26), [], []⟩
def d__law_many : He.DefD := ⟨("_law_many", none), "_law_many", "_law_many", defArgs (top 27), defBody (top 27), defScope (top 27), [], []⟩
def d__law_deep : He.DefD := ⟨("_law_deep", none), "_law_deep", "_law_deep", defArgs (top 28), defBody (top 28), defScope (top 28), [], []⟩
def d__law_known : He.DefD := ⟨("_law_known", none), "_law_known", "_law_known", defArgs (top 29), defBody (top 29), defScope (top 29), [], []⟩
def d__law_leaves : He.DefD := ⟨("_law_leaves", none), "_law_leaves", "_law_leaves", defArgs (top 30), defBody (top 30), defScope (top 30), [], []⟩
def d__law_is_told : He.DefD := ⟨("_law_is_told", none), "_law_is_told", "_law_is_told", defArgs (top 31), defBody (top 31), defScope (top 31), [], []⟩
def d__law_by_truth : He.DefD := ⟨("_law_by_truth", none), "_law_by_truth", "_law_by_truth", defArgs (top 32), defBody (top 32), defScope (top 32), [], []⟩
def d__law_by_choices : He.DefD := ⟨("_law_by_choices", none), "_law_by_choices", "_law_by_choices", defArgs (top 33), defBody (top 33), defScope (top 33), [], []⟩
def d_law : He.DefD := ⟨("law", none), "law", "law", defArgs (top 34), defBody (top 34), defScope (top 34), [], []⟩
def fn : List He.DefD := [d_lowest, d_plus, d_times, d_order, d_is_so, d__line_at, d_run, d_holds, d__law_bowl, d__law_draw, d__law_pick, d__law_low, d__law_total, d__law_is_true, d__law_fraction, d__law_name, d__law_line, d__law_program, d__law_walk, d__law_tree, d__law_truth, d__law_contrary, d__law_many, d__law_deep, d__law_known, d__law_leaves, d__law_is_told, d__law_by_truth, d__law_by_choices, d_law]
def fa : List He.Fa := [.free "len", .free "int", .free "abs", .free "repr", .free "list", .free "tuple", .free "all", .free "any", .free "isinstance", .free "max", .free "min", .free "range", .free "enumerate", .free "zip", .free "reversed", .free "bool", .free "str", .free "sum", .free "sorted", .free "set", .free "divmod", .glo "lowest", .glo "plus", .glo "times", .glo "order", .glo "is_so", .glo "_line_at", .glo "run", .glo "holds", .glo "_law_bowl", .glo "_law_draw", .glo "_law_pick", .glo "_law_low", .glo "_law_total", .glo "_law_is_true", .glo "_law_fraction", .glo "_law_name", .glo "_law_line", .glo "_law_program", .glo "_law_walk", .glo "_law_tree", .glo "_law_truth", .glo "_law_contrary", .glo "_law_many", .glo "_law_deep", .glo "_law_known", .glo "_law_leaves", .glo "_law_is_told", .glo "_law_by_truth", .glo "_law_by_choices", .glo "law", .glo "COMPARED"]
abbrev R : PySem.W.OpenRow := PySem.W.OpenLaw.row PySem.Challenge.rw_unsureworks_k47_sayings_and_their_contra
def exb (K : PySem.W.Frag) : Bool := He.eqO (PySem.W.nsIn K mainGlobals "gcd") (some (some (.builtin "math.gcd"))) && He.tupB K "COMPARED" ((["<", "<=", "="] : List Str).map He.Dv.str)
abbrev hk : PySem.W.Hook := hookU 4 fa fn exb
def ob (s : PySem.W.SharedT) : He.AlD := obsU 4 fa fn exb (HandSHeadRun.getT s)
theorem ob_eq (s : PySem.W.SharedT) : ob s = hk.obs s.abs := obsU_eq (HandSHeadRun.getT_eq s)
theorem run (w : World) : HeadRun.RunEqI R (PySem.W.view R.prog [0, 2, 3, 4, 5, 7, 8, 9, 10, 11, 13, 14, 15, 16, 17, 18, 19, 20, 21, 22, 23, 24, 25, 26, 27, 28, 29, 30, 31, 32, 33, 34]) hk ob 6000 [] w := by
  unfold HeadRun.RunEqI
  kernel_rfl
theorem facts {K : PySem.W.Frag} {h : Heap} {mg : Str → Option Value} (X : K.In h) (G : h.Ns mainGlobals mg) (c : He.SaysD fa fn K) (e : exb K = true) : Facts R.prog K mg := by
  unfold exb at e
  simp only [Bool.and_eq_true] at e
  obtain ⟨e0, e1⟩ := e
  exact {
    gb := fun x hx => by
      simp only [bltNames, List.mem_cons, List.not_mem_nil, or_false] at hx
      rcases hx with rfl | rfl | rfl | rfl | rfl | rfl | rfl | rfl | rfl | rfl | rfl | rfl | rfl | rfl | rfl | rfl | rfl | rfl | rfl | rfl
      · exact He.free_ok X G (c.fact 0 (f := .free "len") rfl)
      · exact He.free_ok X G (c.fact 1 (f := .free "int") rfl)
      · exact He.free_ok X G (c.fact 2 (f := .free "abs") rfl)
      · exact He.free_ok X G (c.fact 3 (f := .free "repr") rfl)
      · exact He.free_ok X G (c.fact 4 (f := .free "list") rfl)
      · exact He.free_ok X G (c.fact 5 (f := .free "tuple") rfl)
      · exact He.free_ok X G (c.fact 6 (f := .free "all") rfl)
      · exact He.free_ok X G (c.fact 7 (f := .free "any") rfl)
      · exact He.free_ok X G (c.fact 8 (f := .free "isinstance") rfl)
      · exact He.free_ok X G (c.fact 9 (f := .free "max") rfl)
      · exact He.free_ok X G (c.fact 10 (f := .free "min") rfl)
      · exact He.free_ok X G (c.fact 11 (f := .free "range") rfl)
      · exact He.free_ok X G (c.fact 12 (f := .free "enumerate") rfl)
      · exact He.free_ok X G (c.fact 13 (f := .free "zip") rfl)
      · exact He.free_ok X G (c.fact 14 (f := .free "reversed") rfl)
      · exact He.free_ok X G (c.fact 15 (f := .free "bool") rfl)
      · exact He.free_ok X G (c.fact 16 (f := .free "str") rfl)
      · exact He.free_ok X G (c.fact 17 (f := .free "sum") rfl)
      · exact He.free_ok X G (c.fact 18 (f := .free "sorted") rfl)
      · exact He.free_ok X G (c.fact 19 (f := .free "set") rfl)
    er := errs_none fun _ _ _ _ _ _ ⟨_, _, _, z, _⟩ => nomatch z
    dm := He.free_ok X G (c.fact 20 (f := .free "divmod") rfl)
    gcd := PySem.W.mg_of X G (He.eqO_ok e0)
    c_COMPARED := cst_strs ["<", "<=", "="] X G (c.fact 51 (f := .glo "COMPARED") rfl) e1
    d_lowest := c.def_ 0 (d := d_lowest) rfl
    m_lowest := He.glo_ok X G (c.fact 21 (f := .glo "lowest") rfl)
    d_plus := c.def_ 1 (d := d_plus) rfl
    m_plus := He.glo_ok X G (c.fact 22 (f := .glo "plus") rfl)
    d_times := c.def_ 2 (d := d_times) rfl
    m_times := He.glo_ok X G (c.fact 23 (f := .glo "times") rfl)
    d_order := c.def_ 3 (d := d_order) rfl
    m_order := He.glo_ok X G (c.fact 24 (f := .glo "order") rfl)
    d_is_so := c.def_ 4 (d := d_is_so) rfl
    m_is_so := He.glo_ok X G (c.fact 25 (f := .glo "is_so") rfl)
    d__line_at := c.def_ 5 (d := d__line_at) rfl
    m__line_at := He.glo_ok X G (c.fact 26 (f := .glo "_line_at") rfl)
    d_run := c.def_ 6 (d := d_run) rfl
    m_run := He.glo_ok X G (c.fact 27 (f := .glo "run") rfl)
    d_holds := c.def_ 7 (d := d_holds) rfl
    m_holds := He.glo_ok X G (c.fact 28 (f := .glo "holds") rfl)
    d__law_bowl := c.def_ 8 (d := d__law_bowl) rfl
    m__law_bowl := He.glo_ok X G (c.fact 29 (f := .glo "_law_bowl") rfl)
    d__law_draw := c.def_ 9 (d := d__law_draw) rfl
    m__law_draw := He.glo_ok X G (c.fact 30 (f := .glo "_law_draw") rfl)
    d__law_pick := c.def_ 10 (d := d__law_pick) rfl
    m__law_pick := He.glo_ok X G (c.fact 31 (f := .glo "_law_pick") rfl)
    d__law_low := c.def_ 11 (d := d__law_low) rfl
    m__law_low := He.glo_ok X G (c.fact 32 (f := .glo "_law_low") rfl)
    d__law_total := c.def_ 12 (d := d__law_total) rfl
    m__law_total := He.glo_ok X G (c.fact 33 (f := .glo "_law_total") rfl)
    d__law_is_true := c.def_ 13 (d := d__law_is_true) rfl
    m__law_is_true := He.glo_ok X G (c.fact 34 (f := .glo "_law_is_true") rfl)
    d__law_fraction := c.def_ 14 (d := d__law_fraction) rfl
    m__law_fraction := He.glo_ok X G (c.fact 35 (f := .glo "_law_fraction") rfl)
    d__law_name := c.def_ 15 (d := d__law_name) rfl
    m__law_name := He.glo_ok X G (c.fact 36 (f := .glo "_law_name") rfl)
    d__law_line := c.def_ 16 (d := d__law_line) rfl
    m__law_line := He.glo_ok X G (c.fact 37 (f := .glo "_law_line") rfl)
    d__law_program := c.def_ 17 (d := d__law_program) rfl
    m__law_program := He.glo_ok X G (c.fact 38 (f := .glo "_law_program") rfl)
    d__law_walk := c.def_ 18 (d := d__law_walk) rfl
    m__law_walk := He.glo_ok X G (c.fact 39 (f := .glo "_law_walk") rfl)
    d__law_tree := c.def_ 19 (d := d__law_tree) rfl
    m__law_tree := He.glo_ok X G (c.fact 40 (f := .glo "_law_tree") rfl)
    d__law_truth := c.def_ 20 (d := d__law_truth) rfl
    m__law_truth := He.glo_ok X G (c.fact 41 (f := .glo "_law_truth") rfl)
    d__law_contrary := c.def_ 21 (d := d__law_contrary) rfl
    m__law_contrary := He.glo_ok X G (c.fact 42 (f := .glo "_law_contrary") rfl)
    d__law_many := c.def_ 22 (d := d__law_many) rfl
    m__law_many := He.glo_ok X G (c.fact 43 (f := .glo "_law_many") rfl)
    d__law_deep := c.def_ 23 (d := d__law_deep) rfl
    m__law_deep := He.glo_ok X G (c.fact 44 (f := .glo "_law_deep") rfl)
    d__law_known := c.def_ 24 (d := d__law_known) rfl
    m__law_known := He.glo_ok X G (c.fact 45 (f := .glo "_law_known") rfl)
    d__law_leaves := c.def_ 25 (d := d__law_leaves) rfl
    m__law_leaves := He.glo_ok X G (c.fact 46 (f := .glo "_law_leaves") rfl)
    d__law_is_told := c.def_ 26 (d := d__law_is_told) rfl
    m__law_is_told := He.glo_ok X G (c.fact 47 (f := .glo "_law_is_told") rfl)
    d__law_by_truth := c.def_ 27 (d := d__law_by_truth) rfl
    m__law_by_truth := He.glo_ok X G (c.fact 48 (f := .glo "_law_by_truth") rfl)
    d__law_by_choices := c.def_ 28 (d := d__law_by_choices) rfl
    m__law_by_choices := He.glo_ok X G (c.fact 49 (f := .glo "_law_by_choices") rfl)
    d_law := c.def_ 29 (d := d_law) rfl
    m_law := He.glo_ok X G (c.fact 50 (f := .glo "law") rfl)
  }
end Lk47
open PySem PySem.W PySem.Calls PyProof.Rows
theorem PySem.Challenge.cw_unsureworks_k47_sayings_and_their_contra_holds : PySem.Challenge.rw_unsureworks_k47_sayings_and_their_contra.Holds := by
  w_on; o_law
  refine HeadRun.head_imp (r := OpenLaw.row PySem.Challenge.rw_unsureworks_k47_sayings_and_their_contra) (q := view (OpenLaw.row PySem.Challenge.rw_unsureworks_k47_sayings_and_their_contra).prog [0, 2, 3, 4, 5, 7, 8, 9, 10, 11, 13, 14, 15, 16, 17, 18, 19, 20, 21, 22, 23, 24, 25, 26, 27, 28, 29, 30, 31, 32, 33, 34]) (H := Lk47.hk) (ob := Lk47.ob) (M := 6000) (loose := []) (d := HandSHeadRun.topDef (OpenLaw.row PySem.Challenge.rw_unsureworks_k47_sayings_and_their_contra).prog 34) (kwd := []) Lk47.ob_eq
    Lk47.run (by kernel_rfl) (by kernel_rfl) (by kernel_rfl) (by rfl) (by first | assumption | decide +kernel) (by decide +kernel) ⟨rfl, rfl, rfl, rfl, rfl, by decide +kernel⟩ ?hw ?hc
  case hw => w_witness2
  case hc =>
    refine Un.walk_ofU (l := PySem.Challenge.rw_unsureworks_k47_sayings_and_their_contra) (n := 63) (k := 56) (x := "_law_script") rfl (by decide) (by kernel_rfl) ⟨⟨rfl, by decide, by decide⟩, rfl⟩ ?F
    intro w mg fa h Y G hmg0
    obtain ⟨K, KX, c, ce⟩ := Y
    have Z := Lk47.facts KX G c ce
    have hmg : mg ("law" : PySem.Str) = some (.ref fa) := by
      have e : (HandSHeadRun.topDef (OpenLaw.row PySem.Challenge.rw_unsureworks_k47_sayings_and_their_contra).prog 34).name = ("law" : PySem.Str) := by kernel_rfl
      rw [← e]
      exact hmg0
    have efa := Z.m_law.symm.trans hmg
    cases efa
    obtain ⟨fd, F⟩ := Z.d_law
    have hb := L2.FunD.bindsA (ps := ["_law_script"]) F fun _ _ _ _ _ _ us hl => match us, hl with | [_], _ => rfl
    refine ⟨K, fd, Un.spLaw K, KX, fun s v => hb s [v] rfl, fun H a ns hl _ hS => ⟨a, ns, rfl, hS, hl, fun _ => rfl⟩, fun base _ _ => ?_⟩
    obtain ⟨fd2, F2, G2⟩ := Lk47.g_law (P := (PySem.Challenge.rw_unsureworks_k47_sayings_and_their_contra).prog) (w := w) (base := base) Lk47.law_good Z
    have efd := Un.fd_same F F2
    subst efd
    exact G2
end
