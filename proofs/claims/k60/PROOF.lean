import PyProof.Rows.All
import Wide.All
import OpenK.AllK
import Wide.FinOn
import HandS.ForMost
import HandS.ForExc
import HandS.Star
import HandS.Flow
import HandS.IsInst
import HandS.Deep
import HandS.Wide
import HandS.ExcValue
import HandS.ExcInit
import HandS.ClsMeth
import HandS.HeadWalk
import KE.KExcIs
import HandS.TupAny
import HandS.Ends
import HandS.HeadEnd
import HandS.Defaults
import HandS.HeadHook1
import HandS.HeadHook2
import KE.KStateDown
import HandS.Head0
import HandS.Head1
import HandS.Head2
import PySem.Challenge.RW_subjecttags_k60_subjects_as_text
set_option Elab.async false
set_option linter.all false
set_option maxRecDepth 100000
set_option maxHeartbeats 0
set_option exponentiation.threshold 2000
/-! Mini-Python: values as trees (tuples are values), a memory of mutable things, a syntax without positions, what a term asks. -/
namespace MP
open PySem

inductive Val where
  | none | bool (b : Bool) | int (i : Int) | str (s : Str) | tup (vs : List Val) | ref (a : Addr) | scr
  deriving Inhabited

inductive MO where
  | lst (xs : List Val)
  | dct (kvs : List (Val × Val))
  | exc (c : Nat) (fs : List (Str × Val))

abbrev Mem := Addr → Option MO
def mup (M : Mem) (a : Addr) (o : MO) : Mem := fun b => if b = a then some o else M b
theorem mup_same {M : Mem} {a : Addr} {o : MO} : mup M a o a = some o := by unfold mup; rw [if_pos rfl]
theorem mup_ne {M : Mem} {a b : Addr} {o : MO} (h : b ≠ a) : mup M a o b = M b := by unfold mup; rw [if_neg h]

abbrev Sg := List (Option Val)
structure Exn where
  c : Nat
  fs : List (Str × Val)

/-- classes to ask for: a built-in type by name, an own class by number -/
inductive Cl where
  | ty (n : String)
  | own (c : Nat)
  deriving DecidableEq

inductive Op1 where
  | not_ | neg | len | abs | int_ | list_ | tuple_ | all_ | any_ | str_ | isN | notN
  deriving DecidableEq
inductive Op2 where
  | add | sub | mul | mod | fdiv | pow | eq | ne | lt | le | gt | ge | in_ | notin | at_
  deriving DecidableEq
/-- methods of built-in types -/
inductive Mth where
  | append | split | join | index | pop1
  deriving DecidableEq

mutual
inductive E where
  | con (v : Val)
  | var (i : Nat)
  | op1 (o : Op1) (a : E)
  | op2 (o : Op2) (a b : E)
  | chain (o o' : Op2) (a b c : E)
  | and_ (a b : E)
  | or_ (a b : E)
  | ite (t a b : E)
  | slice (a lo hi : E)
  | call (f : Nat) (as : Es)
  | exc (c : Nat) (as : Es)
  | isi (a : E) (cs : List Cl)
  | tup (es : Es)
  | lst (es : Es)
  | dct0
  | comp (elt : E) (own : List Nat) (g : Tg) (it : Itr) (ifs : Es)
  | fld (a : E) (f : Str)
  | meth (m : Mth) (a : E) (as : Es)
inductive Es where
  | nil
  | cons (a : E) (r : Es)
  | star (a : E) (r : Es)
inductive Tg where
  | name (i : Nat)
  | tup (ts : Tgs)
  | sub (a b : E)
inductive Tgs where
  | nil
  | cons (t : Tg) (r : Tgs)
inductive Itr where
  | each (e : E)
  | rng1 (e : E)
  | rng2 (e e' : E)
  | enum (e : E)
end

mutual
inductive S where
  | asg (g : Tg) (e : E)
  | exp (e : E)
  | ite (t : E) (a b : Ss)
  | for_ (g : Tg) (it : Itr) (b : Ss)
  | while_ (t : E) (b : Ss)
  | ret (e : E)
  | raise (c : Nat) (as : Es)
  | tryAs (b : Ss) (c : Cl) (i x : Nat)
  | pass | brk | cont
inductive Ss where
  | nil
  | cons (s : S) (r : Ss)
end

/-! ### slots -/
def gets : Sg → Nat → Option Val
  | [], _ => Option.none
  | o :: _, 0 => o
  | _ :: r, n + 1 => gets r n
def sets : Sg → Nat → Option Val → Sg
  | [], _, _ => []
  | _ :: r, 0, v => v :: r
  | o :: r, n + 1, v => o :: sets r n v
def startS (n : Nat) (vs : List Val) : Sg := vs.map some ++ List.replicate (n - vs.length) Option.none
def wipes (σ : Sg) : List Nat → Sg
  | [] => σ
  | v :: vs => sets (wipes σ vs) v Option.none

/-! ### data -/
mutual
inductive Dm (M : Mem) : Val → PyData → Prop
  | non : Dm M .none .none
  | bl (b : Bool) : Dm M (.bool b) (.bool b)
  | int (i : Int) : Dm M (.int i) (.int i)
  | str (x : Str) : Dm M (.str x) (.str x)
  | lst {a : Addr} {xs : List Val} {ds : List PyData} : M a = some (.lst xs) → DmAll M xs ds → Dm M (.ref a) (.list ds)
  | tup {xs : List Val} {ds : List PyData} : DmAll M xs ds → Dm M (.tup xs) (.tuple ds)
inductive DmAll (M : Mem) : List Val → List PyData → Prop
  | nil : DmAll M [] []
  | cons {v : Val} {vs : List Val} {d : PyData} {ds : List PyData} : Dm M v d → DmAll M vs ds → DmAll M (v :: vs) (d :: ds)
end

/-! ### what a term asks -/
abbrev VK := Val → Mem → Prop
abbrev XK := Exn → Mem → Prop
abbrev WE := Sg → Mem → VK → XK → Prop
abbrev Calls := Nat → List Val → Mem → VK → XK → Prop
structure DE where
  nx : Sg → Mem → Prop
  rt : VK
  bk : Sg → Mem → Prop
  ct : Sg → Mem → Prop
  ex : Exn → Sg → Mem → Prop

/-- the static side: the script, the fields' names of the exceptions, what isinstance answers -/
structure Glo where
  scr : List Int
  /-- the fields' names of the own exception c, in order -/
  efs : Nat → List Str
  /-- is an instance of the own class c one of d -/
  isOwn : Nat → Cl → Bool

def newL (xs : List Val) (M : Mem) (Q : VK) : Prop := ∀ p, M p = Option.none → Q (.ref p) (mup M p (.lst xs))

def truthB (G : Glo) (M : Mem) : Val → Option Bool
  | .none => some false
  | .bool b => some b
  | .int i => some (i != 0)
  | .str s => if s.length ≤ sizeLine then some ((s.length : Int) != 0) else Option.none
  | .tup vs => some (!vs.isEmpty)
  | .ref a => match M a with
    | some (.lst xs) => some (!xs.isEmpty)
    | some (.dct kvs) => some (!kvs.isEmpty)
    | _ => Option.none
  | .scr => some (!G.scr.isEmpty)

def isTy (t : String) : Cl → Bool
  | .ty n => t == n || (t == "bool" && n == "int") || n == "object"
  | .own _ => false
/-- the type of a value -/
def isB (G : Glo) (M : Mem) (c : Cl) : Val → Option Bool
  | .none => some (isTy "NoneType" c)
  | .bool _ => some (isTy "bool" c)
  | .int _ => some (isTy "int" c)
  | .str _ => some (isTy "str" c)
  | .tup _ => some (isTy "tuple" c)
  | .ref a => match M a with
    | some (.lst _) => some (isTy "list" c)
    | some (.dct _) => some (isTy "dict" c)
    | some (.exc k _) => some (G.isOwn k c)
    | Option.none => Option.none
  | .scr => Option.none

def boolsOf : List Val → Option (List Bool)
  | [] => some []
  | .bool b :: r => (boolsOf r).map (b :: ·)
  | _ :: _ => Option.none

def semStr (x : Val) (M : Mem) (Q : VK) : Prop := match x with
  | .str s => Q (.str s) M
  | .none => Q (.str "None") M
  | _ => ∃ d, Dm M x d ∧ PyData.showable d = true ∧ PyData.hasDict d = false ∧ d.depth ≤ 60 ∧ d.shown.length ≤ sizeLine ∧ ((∃ a, x = .ref a) ∨ ∃ vs, x = .tup vs) ∧ Q (.str d.shown) M
def sem1 (G : Glo) (o : Op1) (x : Val) (M : Mem) (Q : VK) : Prop := match o with
  | .not_ => ∃ b, truthB G M x = some b ∧ Q (.bool (!b)) M
  | .neg => match x with | .int i => Q (.int (-i)) M | _ => False
  | .len => match x with
    | .str s => s.length ≤ sizeLine ∧ Q (.int s.length) M
    | .tup vs => Q (.int vs.length) M
    | .ref a => (match M a with | some (.lst xs) => Q (.int xs.length) M | some (.dct kvs) => Q (.int kvs.length) M | _ => False)
    | .scr => Q (.int G.scr.length) M
    | _ => False
  | .abs => match x with | .int i => Q (.int i.natAbs) M | _ => False
  | .int_ => match x with | .int i => Q (.int i) M | .bool b => Q (.int (if b then 1 else 0)) M | _ => False
  | .list_ => match x with
    | .tup vs => newL vs M Q
    | .ref a => (match M a with | some (.lst xs) => newL xs M Q | _ => False)
    | _ => False
  | .tuple_ => match x with
    | .tup vs => Q (.tup vs) M
    | .ref a => (match M a with | some (.lst xs) => Q (.tup xs) M | _ => False)
    | _ => False
  | .all_ => match x with | .ref a => (match M a with | some (.lst xs) => (match boolsOf xs with | some bs => Q (.bool (bs.all id)) M | _ => False) | _ => False) | _ => False
  | .any_ => match x with | .ref a => (match M a with | some (.lst xs) => (match boolsOf xs with | some bs => Q (.bool (bs.any id)) M | _ => False) | _ => False) | _ => False
  | .str_ => semStr x M Q
  | .isN => Q (.bool (match x with | .none => true | _ => false)) M
  | .notN => Q (.bool (match x with | .none => false | _ => true)) M

def posIx (n : Nat) (i : Int) : Option Nat := if 0 ≤ i then (if i < n then some i.toNat else Option.none) else (if -(n : Int) ≤ i then some (i + n).toNat else Option.none)
def lookK (k : Val) : List (Val × Val) → Option Val
  | [] => Option.none
  | (.int i, v) :: r => (match k with | .int j => if i = j then some v else lookK k r | _ => lookK k r)
  | (.str i, v) :: r => (match k with | .str j => if i = j then some v else lookK k r | _ => lookK k r)
  | _ :: r => lookK k r
def isKey : Val → Bool
  | .int _ => true
  | .str _ => true
  | _ => false

def semIn (G : Glo) (x y : Val) (M : Mem) (Q : Bool → Prop) : Prop := match y with
  | .str j => (match x with | .str i => Q (!(Builtin.Str.occurrences j i 0 j.length 1).isEmpty) | _ => False)
  | .ref a => (match M a with
    | some (.dct kvs) => isKey x = true ∧ Q (lookK x kvs).isSome
    | some (.lst _) => ∃ d ds, Dm M x d ∧ Dm M y (.list ds) ∧ SeqAt.shaped d = true ∧ SeqAt.shaped (.list ds) = true ∧ Q (ds.any fun z => PyData.eqv z d)
    | _ => False)
  | _ => False

def atN {α : Type} (xs : List α) (i : Int) (Q : α → Prop) : Prop := match posIx xs.length i with | some j => (match xs[j]? with | some v => Q v | Option.none => False) | Option.none => False
def atL (xs : List Val) (k : Val) (Q : Val → Prop) : Prop := match k with | .int i => atN xs i Q | _ => False
def atD (kvs : List (Val × Val)) (k : Val) (Q : Val → Prop) : Prop := isKey k = true ∧ (match lookK k kvs with | some v => Q v | Option.none => False)
def atR (M : Mem) (a : Addr) (k : Val) (Q : Val → Prop) : Prop := match M a with
  | some (.lst xs) => atL xs k Q
  | some (.dct kvs) => atD kvs k Q
  | _ => False
def sem2 (G : Glo) (o : Op2) (x y : Val) (M : Mem) (Q : VK) : Prop := match o with
  | .add => match x, y with
    | .int i, .int j => Q (.int (i + j)) M
    | .str i, .str j => i.length + j.length ≤ sizeLine ∧ Q (.str (i ++ j)) M
    | .ref a, .ref b => (match M a, M b with | some (.lst xs), some (.lst ys) => xs.length + ys.length ≤ sizeLine ∧ newL (xs ++ ys) M Q | _, _ => False)
    | _, _ => False
  | .sub => match x, y with | .int i, .int j => Q (.int (i - j)) M | _, _ => False
  | .mul => match x, y with
    | .int i, .int j => i.natAbs < 2 ^ 500000 ∧ j.natAbs < 2 ^ 400000 ∧ Q (.int (i * j)) M
    | .ref a, .int k => (match M a with | some (.lst xs) => -(2 ^ 63) ≤ k ∧ k < 2 ^ 63 ∧ xs.length * k.toNat ≤ sizeLine ∧ newL (List.replicate k.toNat xs).flatten M Q | _ => False)
    | _, _ => False
  | .mod => match x, y with | .int i, .int j => 0 < j ∧ Q (.int (i % j)) M | _, _ => False
  | .fdiv => match x, y with | .int i, .int j => 0 < j ∧ j < 1073741824 ∧ Q (.int (i / j)) M | _, _ => False
  | .pow => match x, y with | .int i, .int j => 0 ≤ j ∧ j ≤ 1000000 ∧ i.natAbs < 2 ^ 64 ∧ Q (.int (i ^ j.toNat)) M | _, _ => False
  | .eq => ∃ d e, Dm M x d ∧ Dm M y e ∧ SeqAt.shaped d = true ∧ SeqAt.shaped e = true ∧ Q (.bool (PyData.eqv d e)) M
  | .ne => ∃ d e, Dm M x d ∧ Dm M y e ∧ SeqAt.shaped d = true ∧ SeqAt.shaped e = true ∧ Q (.bool (!PyData.eqv d e)) M
  | .lt => match x, y with | .int i, .int j => Q (.bool (decide (i < j))) M | _, _ => False
  | .le => match x, y with | .int i, .int j => Q (.bool (decide (i ≤ j))) M | _, _ => False
  | .gt => match x, y with | .int i, .int j => Q (.bool (decide (j < i))) M | _, _ => False
  | .ge => match x, y with | .int i, .int j => Q (.bool (decide (j ≤ i))) M | _, _ => False
  | .in_ => semIn G x y M fun b => Q (.bool b) M
  | .notin => semIn G x y M fun b => Q (.bool (!b)) M
  | .at_ => match x, y with
    | .str s, .int i => s.length ≤ sizeLine ∧ atN s.cps.toList i fun c => Q (.str ⟨#[c]⟩) M
    | .tup xs, .int i => atN xs i fun v => Q v M
    | .scr, .int i => atN G.scr i fun v => Q (.int v) M
    | .ref a, k => atR M a k fun v => Q v M
    | _, _ => False

/-- what a method's owner is -/
def isM (m : Mth) (x : Val) (M : Mem) : Prop := match m, x with
  | .split, .str _ => True
  | .join, .str _ => True
  | .append, .ref a => ∃ xs, M a = some (.lst xs)
  | .index, .ref a => ∃ xs, M a = some (.lst xs)
  | .pop1, .ref a => ∃ xs, M a = some (.lst xs)
  | _, _ => False
def textsOf : List Val → Option (List Str)
  | [] => some []
  | .str s :: r => (textsOf r).map (s :: ·)
  | _ :: _ => Option.none
def semM (m : Mth) (x : Val) (vs : List Val) (M : Mem) (Q : VK) : Prop := match m, x, vs with
  | .append, .ref a, [y] => (match M a with | some (.lst xs) => xs.length < sizeLine ∧ Q .none (mup M a (.lst (xs ++ [y]))) | _ => False)
  | .pop1, .ref a, [.int i] => (match M a with | some (.lst xs) => -(2 ^ 63) ≤ i ∧ i < 2 ^ 63 ∧ (match posIx xs.length i with | some j => (match xs[j]? with | some v => Q v (mup M a (.lst (xs.eraseIdx j))) | Option.none => False) | Option.none => False) | _ => False)
  | .split, .str a, [.str b] => (b.length == 0) = false ∧ a.length + 2 ≤ sizeLine ∧ newL ((Txt.split a b).map Val.str) M Q
  | .join, .str a, [.ref p] => (match M p with | some (.lst xs) => (match textsOf xs with | some ys => (ys.map (·.length)).sum + ys.length * a.length ≤ 16777216 ∧ Q (.str (Txt.join a ys)) M | Option.none => False) | _ => False)
  | .index, .ref a, [y] => ∃ d ds j z, Dm M (.ref a) (.list ds) ∧ Dm M y d ∧ SeqAt.shaped (.list ds) = true ∧ SeqAt.shaped d = true ∧ ds[j]? = some z ∧ PyData.eqv z d = true ∧ (∀ (m : Nat) (z' : PyData), m < j → ds[m]? = some z' → PyData.eqv z' d = false) ∧ Q (.int (j : Nat)) M
  | _, _, _ => False

/-! ### a slice's part, texts -/
def part : Val → Option (Option Int)
  | .none => some Option.none
  | .int i => some (some i)
  | _ => Option.none
def cutL {α : Type} (xs : List α) (lo hi : Option Int) : List α := (xs.drop (HT.sIx xs.length 0 lo)).take (HT.sIx xs.length xs.length hi - HT.sIx xs.length 0 lo)
def semSlice (x : Val) (l h : Option Int) (M : Mem) (Q : VK) : Prop := match x with
  | .str s => s.length ≤ sizeLine ∧ Q (.str (L2.cutS s l h)) M
  | .tup xs => Q (.tup (cutL xs l h)) M
  | .ref a => (match M a with | some (.lst xs) => newL (cutL xs l h) M Q | _ => False)
  | _ => False
def sameK : Val → Val → Bool
  | .int i, .int j => decide (i = j)
  | .str i, .str j => decide (i = j)
  | _, _ => false
def setK (k v : Val) (l : List (Val × Val)) : List (Val × Val) := if (lookK k l).isSome = true then l.map (fun p => if sameK p.1 k = true then (p.1, v) else p) else l ++ [(k, v)]
def setL (M : Mem) (a : Addr) (xs : List Val) (i v : Val) (Q : Mem → Prop) : Prop := match i with | .int k => (match posIx xs.length k with | some j => Q (mup M a (.lst (xs.set j v))) | Option.none => False) | _ => False
def setR (M : Mem) (a : Addr) (i v : Val) (Q : Mem → Prop) : Prop := match M a with
  | some (.lst xs) => setL M a xs i v Q
  | some (.dct kvs) => isKey i = true ∧ kvs.length < sizeLine ∧ Q (mup M a (.dct (setK i v kvs)))
  | _ => False
def semSet (o i v : Val) (M : Mem) (Q : Mem → Prop) : Prop := match o with
  | .ref a => setR M a i v Q
  | _ => False
structure Src where
  ok : Mem → Prop
  items : List Val
def enumI (n : Nat) : List Val → List Val
  | [] => []
  | x :: r => .tup [.int n, x] :: enumI (n + 1) r
def rngI (lo : Int) (n : Nat) : List Val := (List.range n).map fun (i : Nat) => .int (lo + (i : Int))
def semEach (v : Val) (M : Mem) (R : Src → Mem → Prop) : Prop := match v with
  | .str s => R ⟨fun _ => True, s.cps.toList.map fun c => .str ⟨#[c]⟩⟩ M
  | .tup xs => R ⟨fun _ => True, xs⟩ M
  | .ref a => (match M a with | some (.lst xs) => R ⟨fun M' => M' a = some (.lst xs), xs⟩ M | _ => False)
  | _ => False
def semEnum (v : Val) (M : Mem) (R : Src → Mem → Prop) : Prop := match v with
  | .ref a => (match M a with | some (.lst xs) => R ⟨fun M' => M' a = some (.lst xs), enumI 0 xs⟩ M | _ => False)
  | _ => False
def inR (i : Int) : Prop := -(2 ^ 62) ≤ i ∧ i < 2 ^ 62
def semR1 (v : Val) (M : Mem) (R : Src → Mem → Prop) : Prop := match v with
  | .int j => inR j ∧ R ⟨fun _ => True, rngI 0 j.toNat⟩ M
  | _ => False
def semR2 (v u : Val) (M : Mem) (R : Src → Mem → Prop) : Prop := match v, u with
  | .int i, .int j => inR i ∧ inR j ∧ R ⟨fun _ => True, rngI i (j - i).toNat⟩ M
  | _, _ => False
def starV (v : Val) (M : Mem) : Option (List Val) := match v with
  | .tup xs => some xs
  | .ref a => (match M a with | some (.lst xs) => some xs | _ => Option.none)
  | _ => Option.none
def compItems (step : Val → (List Val → Mem → Prop) → List Val → Mem → Prop) (ok : Mem → Prop) (fin : List Val → Mem → Prop) : List Val → List Val → Mem → Prop
  | [], acc, M => ok M ∧ fin acc M
  | x :: r, acc, M => ok M ∧ step x (compItems step ok fin r) acc M
def forItems (step : Val → (Sg → Mem → Prop) → Sg → Mem → Prop) (ok : Mem → Prop) (fin : Sg → Mem → Prop) : List Val → Sg → Mem → Prop
  | [], σ, M => ok M ∧ fin σ M
  | x :: r, σ, M => ok M ∧ step x (forItems step ok fin r) σ M
def whileN (step : (Sg → Mem → Prop) → Sg → Mem → Prop) : Nat → Sg → Mem → Prop
  | 0, _, _ => False
  | m + 1, σ, M => step (whileN step m) σ M
def isCl (G : Glo) (M : Mem) (x : Val) : List Cl → Option Bool
  | [] => some false
  | c :: cs => match isB G M c x, isCl G M x cs with | some b, some b' => some (b || b') | _, _ => Option.none
def noX : XK := fun _ _ => False
def lenT : Tgs → Nat
  | .nil => 0
  | .cons _ r => lenT r + 1

section
variable (G : Glo) (C : Calls)
mutual
def wpE : E → WE
  | .con v, _, M, Q, _ => Q v M
  | .var i, σ, M, Q, _ => (match gets σ i with | some v => Q v M | Option.none => False)
  | .op1 o a, σ, M, Q, X => wpE a σ M (fun x M1 => sem1 G o x M1 Q) X
  | .op2 o a b, σ, M, Q, X => wpE a σ M (fun x M1 => wpE b σ M1 (fun y M2 => sem2 G o x y M2 Q) X) X
  | .chain o o' a b c, σ, M, Q, X => wpE a σ M (fun x M1 => wpE b σ M1 (fun y M2 => sem2 G o x y M2 (fun r M3 => (match r with
      | .bool true => wpE c σ M3 (fun z M4 => sem2 G o' y z M4 Q) X
      | .bool false => Q (.bool false) M3
      | _ => False))) X) X
  | .and_ a b, σ, M, Q, X => wpE a σ M (fun x M1 => (match truthB G M1 x with | some true => wpE b σ M1 Q X | some false => Q x M1 | Option.none => False)) X
  | .or_ a b, σ, M, Q, X => wpE a σ M (fun x M1 => (match truthB G M1 x with | some false => wpE b σ M1 Q X | some true => Q x M1 | Option.none => False)) X
  | .ite t a b, σ, M, Q, X => wpE t σ M (fun x M1 => (match truthB G M1 x with | some true => wpE a σ M1 Q X | some false => wpE b σ M1 Q X | Option.none => False)) X
  | .slice a lo hi, σ, M, Q, X => wpE a σ M (fun x M1 => wpE lo σ M1 (fun lv M2 => (match part lv with | some l => wpE hi σ M2 (fun hv M3 => (match part hv with | some h => semSlice x l h M3 Q | Option.none => False)) X | Option.none => False)) X) X
  | .call f as, σ, M, Q, X => wpEs as σ M (fun vs M1 => C f vs M1 Q X) X
  | .exc c as, σ, M, Q, X => wpEs as σ M (fun vs M1 => vs.length = (G.efs c).length ∧ ∀ a, M1 a = Option.none → Q (.ref a) (mup M1 a (.exc c ((G.efs c).zip vs)))) X
  | .isi a cs, σ, M, Q, X => wpE a σ M (fun x M1 => (match isCl G M1 x cs with | some b => Q (.bool b) M1 | Option.none => False)) X
  | .tup es, σ, M, Q, X => wpEs es σ M (fun vs M1 => vs.length ≤ sizeLine ∧ Q (.tup vs) M1) X
  | .lst es, σ, M, Q, X => wpEs es σ M (fun vs M1 => vs.length ≤ sizeLine ∧ newL vs M1 Q) X
  | .dct0, _, M, Q, _ => ∀ p, M p = Option.none → Q (.ref p) (mup M p (.dct []))
  | .comp elt own g it ifs, σ, M, Q, X => wpI it σ M (fun src M1 => compItems (fun x k acc M2 => wpG g x (wipes σ own) M2 (fun σ3 M3 =>
      wpEs ifs σ3 M3 (fun bs M4 => (match bs with
        | [] => wpE elt σ3 M4 (fun y M5 => acc.length < sizeLine ∧ k (acc ++ [y]) M5) noX
        | [b] => (match truthB G M4 b with | some true => wpE elt σ3 M4 (fun y M5 => acc.length < sizeLine ∧ k (acc ++ [y]) M5) noX | some false => k acc M4 | Option.none => False)
        | _ => False)) noX) noX) src.ok (fun acc M' => newL acc M' Q) src.items [] M1) X
  | .fld a f, σ, M, Q, X => wpE a σ M (fun x M1 => (match x with
      | .ref p => (match M1 p with | some (.exc _ fs) => (match fs.lookup f with | some v => Q v M1 | Option.none => False) | _ => False)
      | _ => False)) X
  | .meth m a as, σ, M, Q, X => wpE a σ M (fun x M1 => isM m x M1 ∧ wpEs as σ M1 (fun vs M2 => semM m x vs M2 Q) X) X
def wpEs : Es → Sg → Mem → (List Val → Mem → Prop) → XK → Prop
  | .nil, _, M, Q, _ => Q [] M
  | .cons a r, σ, M, Q, X => wpE a σ M (fun x M1 => wpEs r σ M1 (fun xs M2 => Q (x :: xs) M2) X) X
  | .star a r, σ, M, Q, X => wpE a σ M (fun x M1 => (match starV x M1 with | some ys => wpEs r σ M1 (fun xs M2 => Q (ys ++ xs) M2) X | Option.none => False)) X
def wpG : Tg → Val → Sg → Mem → (Sg → Mem → Prop) → XK → Prop
  | .name i, v, σ, M, Q, _ => Q (sets σ i (some v)) M
  | .tup ts, v, σ, M, Q, _ => (match v with | .tup vs => vs.length = lenT ts ∧ wpGs ts vs σ M Q noX | _ => False)
  | .sub a b, v, σ, M, Q, X => wpE a σ M (fun x M1 => wpE b σ M1 (fun y M2 => semSet x y v M2 (fun M3 => Q σ M3)) X) X
def wpGs : Tgs → List Val → Sg → Mem → (Sg → Mem → Prop) → XK → Prop
  | .nil, vs, σ, M, Q, _ => (match vs with | [] => Q σ M | _ => False)
  | .cons t r, vs, σ, M, Q, X => (match vs with | v :: vs => wpG t v σ M (fun σ1 M1 => wpGs r vs σ1 M1 Q X) X | _ => False)
def wpI : Itr → Sg → Mem → (Src → Mem → Prop) → XK → Prop
  | .each e, σ, M, R, X => wpE e σ M (fun v M1 => semEach v M1 R) X
  | .rng1 e, σ, M, R, X => wpE e σ M (fun v M1 => semR1 v M1 R) X
  | .rng2 e e', σ, M, R, X => wpE e σ M (fun v M1 => wpE e' σ M1 (fun u M2 => semR2 v u M2 R) X) X
  | .enum e, σ, M, R, X => wpE e σ M (fun v M1 => semEnum v M1 R) X
end

def DE.xk (D : DE) (σ : Sg) : XK := fun e M => D.ex e σ M
mutual
def wpS : S → DE → Sg → Mem → Prop
  | .asg g e, D, σ, M => wpE G C e σ M (fun v M1 => wpG G C g v σ M1 D.nx (D.xk σ)) (D.xk σ)
  | .exp e, D, σ, M => wpE G C e σ M (fun _ M1 => D.nx σ M1) (D.xk σ)
  | .ite t a b, D, σ, M => wpE G C t σ M (fun x M1 => (match truthB G M1 x with | some true => wpSs a D σ M1 | some false => wpSs b D σ M1 | Option.none => False)) (D.xk σ)
  | .for_ g it b, D, σ, M => wpI G C it σ M (fun src M1 => forItems (fun x k σ2 M2 => wpG G C g x σ2 M2 (fun σ3 M3 => wpSs b { D with nx := k, ct := k, bk := D.nx } σ3 M3) (D.xk σ2)) src.ok D.nx src.items σ M1) (D.xk σ)
  | .while_ t b, D, σ, M => ∃ m, whileN (fun k σ M => wpE G C t σ M (fun x M1 => (match truthB G M1 x with
      | some true => wpSs b { D with nx := k, ct := k, bk := D.nx } σ M1
      | some false => D.nx σ M1
      | Option.none => False)) (D.xk σ)) m σ M
  | .ret e, D, σ, M => wpE G C e σ M D.rt (D.xk σ)
  | .raise c as, D, σ, M => wpEs G C as σ M (fun vs M1 => vs.length = (G.efs c).length ∧ D.ex ⟨c, (G.efs c).zip vs⟩ σ M1) (D.xk σ)
  | .tryAs b c i x, D, σ, M => wpSs b { D with ex := fun e σ1 M1 => if G.isOwn e.c c = true then ∀ a, M1 a = Option.none → D.nx (sets (sets σ1 x (some (.ref a))) i Option.none) (mup M1 a (.exc e.c e.fs)) else D.ex e σ1 M1 } σ M
  | .pass, D, σ, M => D.nx σ M
  | .brk, D, σ, M => D.bk σ M
  | .cont, D, σ, M => D.ct σ M
def wpSs : Ss → DE → Sg → Mem → Prop
  | .nil, D, σ, M => D.nx σ M
  | .cons s r, D, σ, M => wpS s { D with nx := wpSs r D } σ M
end
end

structure Fn where
  np : Nat
  nv : Nat
  body : Ss
/-- the defs, run d deep at most -/
def wpC (G : Glo) (tbl : Nat → Option Fn) : Nat → Calls
  | 0 => fun _ _ _ _ _ => False
  | d + 1 => fun f vs M Q X => match tbl f with
    | some fn => vs.length = fn.np ∧ wpSs G (wpC G tbl d) fn.body ⟨fun _ M' => Q .none M', Q, fun _ _ => False, fun _ _ => False, fun e _ M' => X e M'⟩ (startS fn.nv vs) M
    | Option.none => False

end MP
/-! The two levels side by side: a memory M of trees, an abstract heap H. -/
namespace MP
open PySem L2
open PySem.Spec PyProof.Rows

structure SG where
  P : Program
  w : World
  K : PySem.W.Frag
  mg : Str → Option Value
  base : Heap
  G : Glo
  cad : Nat → Addr
  sAd : Addr
  cok : Nat → Bool
  clok : Cl → Bool

abbrev HV := L2.V

mutual
inductive RV (Γ : SG) (H : Hp) : Val → HV → Prop
  | non : RV Γ H .none .non
  | bl (b : Bool) : RV Γ H (.bool b) (.bl b)
  | int (i : Int) : RV Γ H (.int i) (.int i)
  | str (s : Str) : RV Γ H (.str s) (.str s)
  | ref (a : Addr) : RV Γ H (.ref a) (.ref a)
  | tup {a : Addr} {xs : List Val} {ys : List HV} : H a = some (.tup ys) → RVs Γ H xs ys → RV Γ H (.tup xs) (.ref a)
  | scr : RV Γ H .scr (.ref Γ.sAd)
inductive RVs (Γ : SG) (H : Hp) : List Val → List HV → Prop
  | nil : RVs Γ H [] []
  | cons {x : Val} {y : HV} {xs : List Val} {ys : List HV} : RV Γ H x y → RVs Γ H xs ys → RVs Γ H (x :: xs) (y :: ys)
end

section
variable {Γ : SG} {H H' H1 : Hp} {M M' M1 : Mem}
mutual
theorem RV.mono (ht : ∀ a ys, H a = some (.tup ys) → H' a = some (.tup ys)) : ∀ {v : Val} {u : HV}, RV Γ H v u → RV Γ H' v u
  | _, _, .non => .non
  | _, _, .bl b => .bl b
  | _, _, .int i => .int i
  | _, _, .str s => .str s
  | _, _, .ref a => .ref a
  | _, _, .tup e r => .tup (ht _ _ e) (RVs.mono ht r)
  | _, _, .scr => .scr
theorem RVs.mono (ht : ∀ a ys, H a = some (.tup ys) → H' a = some (.tup ys)) : ∀ {v : List Val} {u : List HV}, RVs Γ H v u → RVs Γ H' v u
  | _, _, .nil => .nil
  | _, _, .cons r t => .cons (RV.mono ht r) (RVs.mono ht t)
end
theorem RVs.length : ∀ {xs : List Val} {ys : List HV}, RVs Γ H xs ys → xs.length = ys.length
  | _, _, .nil => rfl
  | _, _, .cons _ t => congrArg (· + 1) (RVs.length t)
theorem RVs.get : ∀ {xs : List Val} {ys : List HV} {i : Nat} {x : Val}, RVs Γ H xs ys → xs[i]? = some x → ∃ y, ys[i]? = some y ∧ RV Γ H x y
  | _, _, _, _, .nil, e => by simp at e
  | _, _, 0, _, .cons r _, e => by simp at e; subst e; exact ⟨_, rfl, r⟩
  | _, _, i + 1, x, .cons _ t, e => by
    obtain ⟨u, h1, h2⟩ := RVs.get (i := i) (x := x) t (by simpa using e)
    exact ⟨u, by simpa using h1, h2⟩
theorem RVs.append : ∀ {xs xs' : List Val} {ys ys' : List HV}, RVs Γ H xs ys → RVs Γ H xs' ys' → RVs Γ H (xs ++ xs') (ys ++ ys')
  | _, _, _, _, .nil, s => s
  | _, _, _, _, .cons r t, s => .cons r (RVs.append t s)
theorem RVs.set {x : Val} {y : HV} (r : RV Γ H x y) : ∀ {xs : List Val} {ys : List HV} (i : Nat), RVs Γ H xs ys → RVs Γ H (xs.set i x) (ys.set i y)
  | _, _, _, .nil => .nil
  | _, _, 0, .cons _ t => .cons r t
  | _, _, i + 1, .cons q t => .cons q (RVs.set r i t)
theorem RVs.take : ∀ {xs : List Val} {ys : List HV} (n : Nat), RVs Γ H xs ys → RVs Γ H (xs.take n) (ys.take n)
  | _, _, 0, _ => .nil
  | _, _, _ + 1, .nil => .nil
  | _, _, n + 1, .cons r t => .cons r (RVs.take n t)
theorem RVs.drop : ∀ {xs : List Val} {ys : List HV} (n : Nat), RVs Γ H xs ys → RVs Γ H (xs.drop n) (ys.drop n)
  | _, _, 0, r => r
  | _, _, _ + 1, .nil => .nil
  | _, _, n + 1, .cons _ t => RVs.drop n t
theorem RVs.rep {xs : List Val} {ys : List HV} (r : RVs Γ H xs ys) : ∀ n : Nat, RVs Γ H (List.replicate n xs).flatten (List.replicate n ys).flatten
  | 0 => .nil
  | n + 1 => by
    rw [List.replicate_succ, List.replicate_succ, List.flatten_cons, List.flatten_cons]
    exact r.append (RVs.rep r n)
theorem RVs.none_of {xs : List Val} {ys : List HV} {i : Nat} (r : RVs Γ H xs ys) (h : xs[i]? = none) : ys[i]? = none := by
  have := r.length
  rw [List.getElem?_eq_none_iff] at h ⊢
  omega
theorem RVs.isEmpty {xs : List Val} {ys : List HV} (r : RVs Γ H xs ys) : xs.isEmpty = ys.isEmpty := by cases r <;> rfl
theorem RVs.one {x : Val} {ys : List HV} (r : RVs Γ H [x] ys) : ∃ y, ys = [y] ∧ RV Γ H x y := by
  cases r with
  | cons a b => cases b; exact ⟨_, rfl, a⟩
theorem RVs.ints : ∀ {is : List Int}, RVs Γ H (is.map Val.int) (is.map L2.V.int)
  | [] => .nil
  | i :: r => .cons (.int i) RVs.ints

def kRel : Val → Key → Prop
  | .int i, .inl j => i = j
  | .str s, .inr t => s = t
  | _, _ => False
def DRel (Γ : SG) (H : Hp) : List (Val × Val) → List (Key × HV) → Prop
  | [], [] => True
  | p :: r, q :: s => kRel p.1 q.1 ∧ RV Γ H p.2 q.2 ∧ DRel Γ H r s
  | _, _ => False
def FRel (Γ : SG) (H : Hp) : List (Str × Val) → List (Str × HV) → Prop
  | [], [] => True
  | p :: r, q :: s => p.1 = q.1 ∧ RV Γ H p.2 q.2 ∧ FRel Γ H r s
  | _, _ => False
theorem DRel.mono (ht : ∀ a ys, H a = some (.tup ys) → H' a = some (.tup ys)) : ∀ {l : List (Val × Val)} {m : List (Key × HV)}, DRel Γ H l m → DRel Γ H' l m
  | [], [], _ => trivial
  | [], _ :: _, h => h.elim
  | _ :: _, [], h => h.elim
  | _ :: _, _ :: _, ⟨a, b, c⟩ => ⟨a, b.mono ht, DRel.mono ht c⟩
theorem FRel.mono (ht : ∀ a ys, H a = some (.tup ys) → H' a = some (.tup ys)) : ∀ {l : List (Str × Val)} {m : List (Str × HV)}, FRel Γ H l m → FRel Γ H' l m
  | [], [], _ => trivial
  | [], _ :: _, h => h.elim
  | _ :: _, [], h => h.elim
  | _ :: _, _ :: _, ⟨a, b, c⟩ => ⟨a, b.mono ht, FRel.mono ht c⟩

/-- the object of an exception at a, its class at C, its own dict -/
def ExH (C a : Addr) (d : Option Addr) : HO := .ext fun h => ∃ (oe : Obj) (vs : Array Value), h.get? a = some oe ∧ Zc (.ref C) d oe ∧ oe.data = .fields vs
/-- what is told of an exception's fields -/
def XFs (Γ : SG) (M : Mem) (H : Hp) (fs : List (Str × Val)) (d : Option Addr) : Prop :=
  (fs = [] ∧ d = none) ∨ ∃ dd fs', d = some dd ∧ H dd = some (.xd fs') ∧ M dd = none ∧ FRel Γ H fs fs'
def XOk (Γ : SG) (c : Nat) (fs : List (Str × Val)) : Prop := Γ.cok c = true ∧ fs.map (·.1) = Γ.G.efs c
def SimO (Γ : SG) (M : Mem) (H : Hp) (a : Addr) : MO → Prop
  | .lst xs => ∃ ys, H a = some (.lst ys) ∧ RVs Γ H xs ys
  | .dct kvs => ∃ ks, H a = some (.dK ks) ∧ DRel Γ H kvs ks
  | .exc c fs => ∃ d, H a = some (ExH (Γ.cad c) a d) ∧ XFs Γ M H fs d ∧ XOk Γ c fs
def KSeq (Γ : SG) : Prop := ∃ (o : Obj) (its : Array Value) (n : Nat), Γ.K.lookup Γ.sAd = some o ∧ o.cls = .type "list" ∧ o.dict = none ∧ o.data = .seq its n ∧ its.size ≤ sizeLine ∧ Vals (Γ.G.scr.map L2.V.int) its.toList
def ScrOk (Γ : SG) (M : Mem) (H : Hp) : Prop := (M Γ.sAd = none ∧ Rd H Γ.sAd (.lst (Γ.G.scr.map L2.V.int))) ∨ KSeq Γ
structure SimM (Γ : SG) (M : Mem) (H : Hp) : Prop where
  scr : ScrOk Γ M H
  ob : ∀ a o, M a = some o → SimO Γ M H a o
def SimS (Γ : SG) (H : Hp) (σ : Sg) (s : L2.St) : Prop := ∀ i v, gets σ i = some v → ∃ u, s[i]? = some (some u) ∧ RV Γ H v u
def Ste (M : Mem) (H : Hp) (M' : Mem) (H' : Hp) : Prop := ∀ a o, M a = none → H a = some o → M' a = none ∧ H' a = some o

theorem Ste.refl : Ste M H M H := fun _ _ h h' => ⟨h, h'⟩
theorem Ste.trans {M2 : Mem} {H2 : Hp} (x : Ste M H M1 H1) (y : Ste M1 H1 M2 H2) : Ste M H M2 H2 := fun a o h h' => y a o (x a o h h').1 (x a o h h').2
theorem SimM.tupN (s : SimM Γ M H) {a : Addr} {ys : List HV} (h : H a = some (.tup ys)) : M a = none := by
  cases e : M a with
  | none => rfl
  | some o =>
    have z := s.ob a o e
    cases o with
    | lst xs => obtain ⟨_, q, _⟩ := z; rw [h] at q; cases q
    | dct xs => obtain ⟨_, q, _⟩ := z; rw [h] at q; cases q
    | exc c fs => obtain ⟨_, q, _⟩ := z; rw [h] at q; cases q
theorem Ste.tup (x : Ste M H M' H') (s : SimM Γ M H) : ∀ a ys, H a = some (.tup ys) → H' a = some (.tup ys) := fun a ys h => (x a _ (s.tupN h) h).2
theorem SimM.fresh (s : SimM Γ M H) {p : Addr} (h : H p = none) : M p = none := by
  cases e : M p with
  | none => rfl
  | some o =>
    have z := s.ob p o e
    cases o with
    | lst xs => obtain ⟨_, q, _⟩ := z; rw [h] at q; cases q
    | dct xs => obtain ⟨_, q, _⟩ := z; rw [h] at q; cases q
    | exc c fs => obtain ⟨_, q, _⟩ := z; rw [h] at q; cases q
theorem SimS.mono {σ : Sg} {s : L2.St} (x : SimS Γ H σ s) (ht : ∀ a ys, H a = some (.tup ys) → H' a = some (.tup ys)) : SimS Γ H' σ s := fun i v e => by
  obtain ⟨u, a, b⟩ := x i v e
  exact ⟨u, a, b.mono ht⟩
theorem SimM.sq (s : SimM Γ M H) : SqL Γ.K H Γ.sAd (Γ.G.scr.map L2.V.int) := by
  rcases s.scr with ⟨_, h⟩ | h
  · exact .inl h
  · exact .inr h

theorem XFs.step {fs : List (Str × Val)} {d : Option Addr} (x : XFs Γ M H fs d) (st : Ste M H M' H') (ht : ∀ a ys, H a = some (.tup ys) → H' a = some (.tup ys)) : XFs Γ M' H' fs d := by
  rcases x with x | ⟨dd, fs', e, h, m, r⟩
  · exact .inl x
  · obtain ⟨m', h'⟩ := st dd _ m h
    exact .inr ⟨dd, fs', e, h', m', r.mono ht⟩
theorem SimO.step {a : Addr} {o : MO} (x : SimO Γ M H a o) (st : Ste M H M' H') (ht : ∀ a ys, H a = some (.tup ys) → H' a = some (.tup ys)) (e : H' a = H a) : SimO Γ M' H' a o := by
  cases o with
  | lst xs => obtain ⟨ys, q, r⟩ := x; exact ⟨ys, e.trans q, r.mono ht⟩
  | dct xs => obtain ⟨ys, q, r⟩ := x; exact ⟨ys, e.trans q, r.mono ht⟩
  | exc c fs => obtain ⟨d, q, r, w⟩ := x; exact ⟨d, e.trans q, r.step st ht, w⟩
theorem ScrOk.step (x : ScrOk Γ M H) (st : Ste M H M' H') : ScrOk Γ M' H' := by
  rcases x with ⟨h, h' | ⟨o, h'⟩⟩ | h
  · exact .inl ⟨(st _ _ h h').1, .inl (st _ _ h h').2⟩
  · exact .inl ⟨(st _ _ h h').1, .inr ⟨o, (st _ _ h h').2⟩⟩
  · exact .inr h

/-- an object laid beside, not told of in M -/
theorem ste_side {p : Addr} {o : HO} (h : H p = none) : Ste M H M (upd H p o) := fun a u m e => ⟨m, by rw [upd_ne (ne_of_none e h)]; exact e⟩
theorem sim_side {p : Addr} {o : HO} (s : SimM Γ M H) (h : H p = none) : SimM Γ M (upd H p o) where
  scr := s.scr.step (ste_side h)
  ob := fun a u e => (s.ob a u e).step (ste_side h) ((ste_side h).tup s) (by
    rw [upd_ne]
    intro z
    subst z
    rw [s.fresh h] at e
    cases e)
/-- an object laid and told -/
theorem ste_new {p : Addr} {o : HO} {m : MO} (h : H p = none) : Ste M H (mup M p m) (upd H p o) := fun a u n e => by
  have ne := ne_of_none e h
  exact ⟨by rw [mup_ne ne]; exact n, by rw [upd_ne ne]; exact e⟩
theorem sim_new {p : Addr} {o : HO} {m : MO} (s : SimM Γ M H) (h : H p = none) (x : SimO Γ (mup M p m) (upd H p o) p m) : SimM Γ (mup M p m) (upd H p o) where
  scr := s.scr.step (ste_new h)
  ob := fun a u e => by
    by_cases z : a = p
    · subst z
      rw [mup_same] at e
      cases e
      exact x
    · rw [mup_ne z] at e
      exact (s.ob a u e).step (ste_new h) ((ste_new (m := m) h).tup s) (by rw [upd_ne z])
/-- an object that is told, changed -/
theorem ste_put {a : Addr} {o : HO} {m m0 : MO} (h : M a = some m0) : Ste M H (mup M a m) (upd H a o) := fun b u n e => by
  have ne : b ≠ a := fun z => by rw [z, h] at n; cases n
  exact ⟨by rw [mup_ne ne]; exact n, by rw [upd_ne ne]; exact e⟩
theorem sim_put {a : Addr} {o : HO} {m m0 : MO} (s : SimM Γ M H) (h : M a = some m0) (x : SimO Γ (mup M a m) (upd H a o) a m) : SimM Γ (mup M a m) (upd H a o) where
  scr := s.scr.step (ste_put h)
  ob := fun b u e => by
    by_cases z : b = a
    · subst z
      rw [mup_same] at e
      cases e
      exact x
    · rw [mup_ne z] at e
      exact (s.ob b u e).step (ste_put h) ((ste_put (m := m) h).tup s) (by rw [upd_ne z])
theorem sim_newL {p : Addr} {xs : List Val} {ys : List HV} (s : SimM Γ M H) (h : H p = none) (r : RVs Γ H xs ys) : SimM Γ (mup M p (.lst xs)) (upd H p (.lst ys)) :=
  sim_new s h ⟨ys, upd_same, r.mono ((ste_side h).tup s)⟩
theorem SimM.lst (s : SimM Γ M H) {a : Addr} {xs : List Val} (e : M a = some (.lst xs)) : ∃ ys, H a = some (.lst ys) ∧ RVs Γ H xs ys := s.ob a _ e
theorem SimM.dct (s : SimM Γ M H) {a : Addr} {xs : List (Val × Val)} (e : M a = some (.dct xs)) : ∃ ys, H a = some (.dK ys) ∧ DRel Γ H xs ys := s.ob a _ e
theorem SimM.exc (s : SimM Γ M H) {a : Addr} {c : Nat} {fs : List (Str × Val)} (e : M a = some (.exc c fs)) : ∃ d, H a = some (ExH (Γ.cad c) a d) ∧ XFs Γ M H fs d ∧ XOk Γ c fs := s.ob a _ e

/-! ### data -/
mutual
theorem Dm.dp (s : SimM Γ M H) : ∀ {v : Val} {d : PyData} {u : HV}, Dm M v d → RV Γ H v u → Dp Γ.K H u d
  | _, _, _, .non, .non => .non
  | _, _, _, .bl b, .bl _ => .bl b
  | _, _, _, .int b, .int _ => .int b
  | _, _, _, .str b, .str _ => .str b
  | _, _, _, .lst e r, .ref _ => by
    obtain ⟨ys, h, q⟩ := s.lst e
    exact .lst (SqL.of h) (DmAll.dp s r q)
  | _, _, _, .tup r, .tup e q => .tup (SqT.of e) (DmAll.dp s r q)
theorem DmAll.dp (s : SimM Γ M H) : ∀ {v : List Val} {d : List PyData} {u : List HV}, DmAll M v d → RVs Γ H v u → DpAll Γ.K H u d
  | _, _, _, .nil, .nil => .nil
  | _, _, _, .cons a b, .cons c e => .cons (Dm.dp s a c) (DmAll.dp s b e)
end

/-! ### the readings made of what a term asks -/
abbrev WX := L2.WX
def RX (Γ : SG) (e : Exn) (cls : Value) (d : Option Addr) (M : Mem) (H : Hp) : Prop := cls = .ref (Γ.cad e.c) ∧ XFs Γ M H e.fs d ∧ XOk Γ e.c e.fs
def LkE (Γ : SG) (W : WX) (X : XK) (M : Mem) (s : L2.St) (H : Hp) : Prop := ∀ e M' H' cls d, X e M' → SimM Γ M' H' → Ste M H M' H' → RX Γ e cls d M' H' → W cls d s H'
theorem LkE.step {W : WX} {X : XK} {s : L2.St} (l : LkE Γ W X M s H) (st : Ste M H M' H') : LkE Γ W X M' s H' := fun e M2 H2 cls d q sm st2 r => l e M2 H2 cls d q sm (st.trans st2) r
theorem LkE.no {W : WX} {s : L2.St} : LkE Γ W noX M s H := fun _ _ _ _ _ h => h.elim
def kV (Γ : SG) (M : Mem) (H : Hp) (Q : VK) (R : L2.VK) : Prop := ∀ v M' u H', Q v M' → RV Γ H' v u → SimM Γ M' H' → Ste M H M' H' → R u H'
def TE' (Γ : SG) (W : WX) (w : WE) : TE := fun s H R => ∃ σ M Q X, SimM Γ M H ∧ SimS Γ H σ s ∧ w σ M Q X ∧ LkE Γ W X M s H ∧ kV Γ M H Q R
def kL (Γ : SG) (M : Mem) (H : Hp) (Q : List Val → Mem → Prop) (R : List HV → Hp → Prop) : Prop := ∀ v M' u H', Q v M' → RVs Γ H' v u → SimM Γ M' H' → Ste M H M' H' → R u H'
def TA' (Γ : SG) (W : WX) (w : Sg → Mem → (List Val → Mem → Prop) → XK → Prop) : TA := fun s H R => ∃ σ M Q X, SimM Γ M H ∧ SimS Γ H σ s ∧ w σ M Q X ∧ LkE Γ W X M s H ∧ kL Γ M H Q R
/-- as a test -/
def TT' (Γ : SG) (W : WX) (w : WE) : TT := fun s H R => ∃ σ M Q X, SimM Γ M H ∧ SimS Γ H σ s ∧ w σ M Q X ∧ LkE Γ W X M s H ∧
  ∀ v M' H', Q v M' → SimM Γ M' H' → Ste M H M' H' → ∃ b, truthB Γ.G M' v = some b ∧ R b H'
theorem kV.step {Q : VK} {R : L2.VK} (k : kV Γ M H Q R) (st : Ste M H M' H') : kV Γ M' H' Q R := fun v M2 u H2 q r sm st2 => k v M2 u H2 q r sm (st.trans st2)
theorem pe_imp {X : Cx} {e : Expr} {t t' : TE} (h : PE X e t) (k : ∀ s H R, t' s H R → t s H R) : PE X e t' := ⟨fun pins s σ H Q I q => h.run pins s σ H Q I (k _ _ _ q)⟩
theorem pt_imp {X : Cx} {e : Expr} {t t' : TT} (h : PT X e t) (k : ∀ s H R, t' s H R → t s H R) : PT X e t' := ⟨fun pins s σ H Q I q => h.run pins s σ H Q I (k _ _ _ q)⟩
theorem pa_imp {X : Cx} {e : List Expr} {t t' : TA} (h : PA X e t) (k : ∀ s H R, t' s H R → t s H R) : PA X e t' := ⟨fun pos pins s σ H Q I q => h.run pos pins s σ H Q I (k _ _ _ q)⟩
theorem ps_imp {X : Cx} {e : Stmt} {t t' : TS} (h : PS X e t) (k : ∀ D s H, t' D s H → t D s H) : PS X e t' := ⟨fun pins s σ H D I q => h.run pins s σ H D I (k _ _ _ q)⟩
theorem pss_imp {X : Cx} {e : List Stmt} {t t' : TS} (h : PSs X e t) (k : ∀ D s H, t' D s H → t D s H) : PSs X e t' := ⟨fun pins s σ H D I q => h.run pins s σ H D I (k _ _ _ q)⟩
end
end MP
/-! Operators by values: the layer's readings and what a term asks. -/
namespace MP
open PySem L2
open PySem.Spec PyProof.Rows
section
variable {Γ : SG}
def R2ok (Γ : SG) (o : Op2) (r : R2) : Prop := ∀ (x y : Val) (M : Mem) (H : Hp) (u v : HV) (Q : VK) (R : L2.VK), SimM Γ M H → RV Γ H x u → RV Γ H y v → sem2 Γ.G o x y M Q → kV Γ M H Q R → r u v H R
def R1ok (Γ : SG) (o : Op1) (r : HV → Hp → L2.VK → Prop) : Prop := ∀ (x : Val) (M : Mem) (H : Hp) (u : HV) (Q : VK) (R : L2.VK), SimM Γ M H → RV Γ H x u → sem1 Γ.G o x M Q → kV Γ M H Q R → r u H R
variable {M : Mem} {H : Hp}
theorem newL_ok {xs : List Val} {ys : List HV} {Q : VK} {R : L2.VK} (s : SimM Γ M H) (r : RVs Γ H xs ys) (h : newL xs M Q) (k : kV Γ M H Q R) : ∀ p, H p = none → R (.ref p) (upd H p (.lst ys)) := fun p hp =>
  k _ _ _ _ (h p (s.fresh hp)) (.ref p) (sim_newL s hp r) (ste_new hp)
theorem kV.now {Q : VK} {R : L2.VK} {x : Val} {u : HV} (k : kV Γ M H Q R) (s : SimM Γ M H) (q : Q x M) (r : RV Γ H x u) : R u H := k x M u H q r s Ste.refl

abbrev rBin (f : Int → Int → HV) : R2 := rI0 f
abbrev rAddS : R2 := fun x y H Q => ∃ i j, x = .str i ∧ y = .str j ∧ i.length + j.length ≤ sizeLine ∧ Q (.str (i ++ j)) H
abbrev rAddA : R2 := fun x y H Q => rI0 (fun i j => .int (i + j)) x y H Q ∨ (rAddS x y H Q ∨ rCat x y H Q)
theorem op_addA {X : Cx} : OpR X (binaryOp .Add) rAddA := op_add.or (op_add_str.or op_cat)
theorem ok_add : R2ok Γ .add rAddA := by
  intro x y M H u v Q R s rx ry h k
  cases x <;> cases y <;> try exact (show False from h).elim
  · cases rx; cases ry
    exact .inl ⟨_, _, rfl, rfl, k.now s h (.int _)⟩
  · cases rx; cases ry
    exact .inr (.inl ⟨_, _, rfl, rfl, h.1, k.now s h.2 (.str _)⟩)
  · rename_i a b
    cases rx; cases ry
    have h : (match M a, M b with | some (.lst xs), some (.lst ys) => xs.length + ys.length ≤ sizeLine ∧ newL (xs ++ ys) M Q | _, _ => False) := h
    cases ea : M a with
    | none => rw [ea] at h; exact h.elim
    | some oa =>
      cases eb : M b with
      | none => rw [ea, eb] at h; cases oa <;> exact (show False from h).elim
      | some ob =>
        rw [ea, eb] at h
        cases oa <;> cases ob <;> try exact (show False from h).elim
        obtain ⟨h1, h2⟩ := h
        obtain ⟨ys, e1, r1⟩ := s.lst ea
        obtain ⟨zs, e2, r2⟩ := s.lst eb
        exact .inr (.inr ⟨_, _, _, _, rfl, rfl, e1, e2, by rw [← r1.length, ← r2.length]; exact h1, newL_ok s (r1.append r2) h2 k⟩)
theorem ok_sub : R2ok Γ .sub (rI0 fun i j => .int (i - j)) := by
  intro x y M H u v Q R s rx ry h k
  cases x <;> cases y <;> try exact (show False from h).elim
  cases rx; cases ry
  exact ⟨_, _, rfl, rfl, k.now s h (.int _)⟩
abbrev rMulA : R2 := fun x y H Q => rI CMulW (fun i j => .int (i * j)) x y H Q ∨ rRep x y H Q
theorem op_mulA {X : Cx} : OpR X (binaryOp .Mult) rMulA := op_mulW.or op_rep
theorem ok_mul : R2ok Γ .mul rMulA := by
  intro x y M H u v Q R s rx ry h k
  cases x <;> cases y <;> try exact (show False from h).elim
  · cases rx; cases ry
    obtain ⟨h1, h2, h3⟩ := h
    exact .inl ⟨_, _, rfl, rfl, wide_mul h1 h2 (by decide) (by decide) (by decide), k.now s h3 (.int _)⟩
  · rename_i a j
    cases rx; cases ry
    have h : (match M a with | some (.lst xs) => -(2 ^ 63) ≤ j ∧ j < 2 ^ 63 ∧ xs.length * j.toNat ≤ sizeLine ∧ newL (List.replicate j.toNat xs).flatten M Q | _ => False) := h
    cases ea : M a with
    | none => rw [ea] at h; exact h.elim
    | some oa =>
      rw [ea] at h
      cases oa <;> try exact (show False from h).elim
      obtain ⟨h1, h2, h3, h4⟩ := h
      obtain ⟨ys, e1, r1⟩ := s.lst ea
      exact .inr ⟨_, _, _, rfl, rfl, e1, h1, h2, by rw [← r1.length]; exact h3, newL_ok s (r1.rep _) h4 k⟩
theorem ok_mod : R2ok Γ .mod (rI (fun _ j => 0 < j) fun i j => .int (i % j)) := by
  intro x y M H u v Q R s rx ry h k
  cases x <;> cases y <;> try exact (show False from h).elim
  cases rx; cases ry
  exact ⟨_, _, rfl, rfl, h.1, k.now s h.2 (.int _)⟩
theorem ok_fdiv : R2ok Γ .fdiv (rI CDiv fun i j => .int (i / j)) := by
  intro x y M H u v Q R s rx ry h k
  cases x <;> cases y <;> try exact (show False from h).elim
  cases rx; cases ry
  exact ⟨_, _, rfl, rfl, ⟨h.1, h.2.1⟩, k.now s h.2.2 (.int _)⟩
theorem ok_pow : R2ok Γ .pow (rI CPow fun i j => .int (i ^ j.toNat)) := by
  intro x y M H u v Q R s rx ry h k
  cases x <;> cases y <;> try exact (show False from h).elim
  cases rx; cases ry
  exact ⟨_, _, rfl, rfl, ⟨h.1, h.2.1, h.2.2.1⟩, k.now s h.2.2.2 (.int _)⟩
theorem ok_eq : R2ok Γ .eq (rEqD Γ.K) := by
  intro x y M H u v Q R s rx ry ⟨d, e, hd, he, sd, se, q⟩ k
  exact ⟨d, e, hd.dp s rx, he.dp s ry, sd, se, k.now s q (.bl _)⟩
theorem ok_ne : R2ok Γ .ne (rNeD Γ.K) := by
  intro x y M H u v Q R s rx ry ⟨d, e, hd, he, sd, se, q⟩ k
  exact ⟨d, e, hd.dp s rx, he.dp s ry, sd, se, k.now s q (.bl _)⟩
theorem ok_lt : R2ok Γ .lt (rI0 fun i j => .bl (decide (i < j))) := by
  intro x y M H u v Q R s rx ry h k
  cases x <;> cases y <;> try exact (show False from h).elim
  cases rx; cases ry
  exact ⟨_, _, rfl, rfl, k.now s h (.bl _)⟩
theorem ok_le : R2ok Γ .le (rI0 fun i j => .bl (decide (i ≤ j))) := by
  intro x y M H u v Q R s rx ry h k
  cases x <;> cases y <;> try exact (show False from h).elim
  cases rx; cases ry
  exact ⟨_, _, rfl, rfl, k.now s h (.bl _)⟩
theorem ok_gt : R2ok Γ .gt (rI0 fun i j => .bl (decide (j < i))) := by
  intro x y M H u v Q R s rx ry h k
  cases x <;> cases y <;> try exact (show False from h).elim
  cases rx; cases ry
  exact ⟨_, _, rfl, rfl, k.now s h (.bl _)⟩
theorem ok_ge : R2ok Γ .ge (rI0 fun i j => .bl (decide (j ≤ i))) := by
  intro x y M H u v Q R s rx ry h k
  cases x <;> cases y <;> try exact (show False from h).elim
  cases rx; cases ry
  exact ⟨_, _, rfl, rfl, k.now s h (.bl _)⟩

/-! ### dicts by int and text keys -/
def keyOf : Val → Option Key
  | .int i => some (.inl i)
  | .str s => some (.inr s)
  | _ => none
theorem keyOf_is {v : Val} (h : isKey v = true) : ∃ k, keyOf v = some k := by cases v <;> first | exact ⟨_, rfl⟩ | cases h
theorem keyOf_rv {v : Val} {k : Key} {u : HV} (e : keyOf v = some k) (r : RV Γ H v u) : u = L2.kV k := by
  cases v <;> cases e <;> cases r <;> rfl
theorem look_rel {k : Val} {kk : Key} (e : keyOf k = some kk) : ∀ {l : List (Val × Val)} {m : List (Key × HV)}, DRel Γ H l m →
    (∀ v, lookK k l = some v → ∃ u, valV m kk = some u ∧ RV Γ H v u) ∧ (lookK k l = none → valV m kk = none)
  | [], [], _ => ⟨fun v h => (by cases h), fun _ => rfl⟩
  | [], _ :: _, h => h.elim
  | _ :: _, [], h => h.elim
  | (a, b) :: l, (c, d) :: m, ⟨h1, h2, h3⟩ => by
    have ih := look_rel e h3
    have h1 : kRel a c := h1
    have h2 : RV Γ H b d := h2
    by_cases hc : c = kk
    · have hv : valV ((c, d) :: m) kk = some d := valV_pos hc
      have hl : lookK k ((a, b) :: l) = some b := by
        subst hc
        cases k <;> cases e <;> cases a <;> first | exact h1.elim | (have h1 := h1; simp only [kRel] at h1; subst h1; simp [lookK])
      rw [hl, hv]
      exact ⟨fun v z => by cases z; exact ⟨_, rfl, h2⟩, fun z => by cases z⟩
    · have hv : valV ((c, d) :: m) kk = valV m kk := valV_neg hc
      have hl : lookK k ((a, b) :: l) = lookK k l := by
        cases c <;> cases a <;> first | exact h1.elim | skip
        · simp only [kRel] at h1; subst h1
          cases k <;> cases e <;> simp only [lookK]
          rw [if_neg fun z => hc (by rw [z])]
        · simp only [kRel] at h1; subst h1
          cases k <;> cases e <;> simp only [lookK]
          rw [if_neg fun z => hc (by rw [z])]
      rw [hl, hv]
      exact ih
theorem look_isSome {k : Val} {kk : Key} (e : keyOf k = some kk) {l : List (Val × Val)} {m : List (Key × HV)} (r : DRel Γ H l m) : (lookK k l).isSome = (valV m kk).isSome := by
  obtain ⟨h1, h2⟩ := look_rel e r
  cases z : lookK k l with
  | none => rw [h2 z]; rfl
  | some v => obtain ⟨u, a, _⟩ := h1 v z; rw [a]; rfl
theorem DRel.length : ∀ {l : List (Val × Val)} {m : List (Key × HV)}, DRel Γ H l m → l.length = m.length
  | [], [], _ => rfl
  | [], _ :: _, h => h.elim
  | _ :: _, [], h => h.elim
  | _ :: _, _ :: _, ⟨_, _, c⟩ => congrArg (· + 1) (DRel.length c)
theorem kRel_same {a k : Val} {c kk : Key} (e : keyOf k = some kk) (h : kRel a c) : sameK a k = decide (c = kk) := by
  cases a <;> cases c <;> first | exact h.elim | skip
  · simp only [kRel] at h; subst h
    cases k <;> cases e <;> simp [sameK]
  · simp only [kRel] at h; subst h
    cases k <;> cases e <;> simp [sameK]
theorem map_rel {k v : Val} {kk : Key} {u : HV} (e : keyOf k = some kk) (rv : RV Γ H v u) : ∀ {l : List (Val × Val)} {m : List (Key × HV)}, DRel Γ H l m →
    DRel Γ H (l.map fun p => if sameK p.1 k = true then (p.1, v) else p) (m.map fun kv => if kv.1 = kk then (kv.1, u) else kv)
  | [], [], _ => trivial
  | [], _ :: _, h => h.elim
  | _ :: _, [], h => h.elim
  | (a, b) :: l, (c, d) :: m, ⟨h1, h2, h3⟩ => by
    have ih := map_rel e rv h3
    rw [List.map_cons, List.map_cons]
    have q : sameK a k = decide (c = kk) := kRel_same e h1
    refine ⟨?_, ?_, ih⟩
    · by_cases hc : c = kk
      · simp only [q, hc, decide_true, if_true]; rw [← hc]; exact h1
      · simp only [q, hc, decide_false, if_false, Bool.false_eq_true]; exact h1
    · by_cases hc : c = kk
      · simp only [q, hc, decide_true, if_true]; exact rv
      · simp only [q, hc, decide_false, if_false, Bool.false_eq_true]; exact h2
theorem DRel.snoc {k v : Val} {kk : Key} {u : HV} (e : keyOf k = some kk) (rv : RV Γ H v u) : ∀ {l : List (Val × Val)} {m : List (Key × HV)}, DRel Γ H l m → DRel Γ H (l ++ [(k, v)]) (m ++ [(kk, u)])
  | [], [], _ => ⟨by cases k <;> cases e <;> exact rfl, rv, trivial⟩
  | [], _ :: _, h => h.elim
  | _ :: _, [], h => h.elim
  | _ :: _, _ :: _, ⟨h1, h2, h3⟩ => ⟨h1, h2, DRel.snoc e rv h3⟩
theorem set_rel {k v : Val} {kk : Key} {u : HV} (e : keyOf k = some kk) (rv : RV Γ H v u) {l : List (Val × Val)} {m : List (Key × HV)} (r : DRel Γ H l m) : DRel Γ H (setK k v l) (putK m kk u) := by
  have hs := look_isSome e r
  have ha : (m.any fun kv => decide (kv.1 = kk)) = (valV m kk).isSome := valV_any kk m
  unfold setK putK
  rw [ha, ← hs]
  by_cases z : (lookK k l).isSome = true
  · rw [if_pos z, if_pos z]; exact map_rel e rv r
  · rw [if_neg z, if_neg z]; exact r.snoc e rv
end
end MP
/-! Further operators, builtins, methods, by values. -/
namespace MP
open PySem L2
open PySem.Spec PyProof.Rows
section
variable {Γ : SG} {X : Cx}
/-! ### x in y -/
abbrev rInS (neg : Bool) : R2 := fun x y H Q => ∃ i j, x = .str i ∧ y = .str j ∧ Q (.bl (if neg then !(!(Builtin.Str.occurrences j i 0 j.length 1).isEmpty) else (!(Builtin.Str.occurrences j i 0 j.length 1).isEmpty))) H
abbrev rInK (neg : Bool) : R2 := fun x y H Q => ∃ a o, y = .ref a ∧ DGet H a x o ∧ Q (.bl (if neg then !o.isSome else o.isSome)) H
theorem op_inK (hu : X.A.units + 1 < cLine) : OpR X (compareOp .In) (rInK false) := by
  intro pins s σ H x y v u Q I rx ry ⟨a, o, ey, g, q⟩
  subst ey
  obtain rfl : u = Value.ref a := ry
  exact d_in hu I g rx fun s3 I3 => ⟨.bl o.isSome, H, I3, rfl, q⟩
theorem op_notinK (hu : X.A.units + 1 < cLine) : OpR X (compareOp .NotIn) (rInK true) := by
  intro pins s σ H x y v u Q I rx ry ⟨a, o, ey, g, q⟩
  subst ey
  obtain rfl : u = Value.ref a := ry
  exact d_notIn hu I g rx fun s3 I3 => ⟨.bl (!o.isSome), H, I3, rfl, q⟩
abbrev rInA : R2 := fun x y H Q => rInS false x y H Q ∨ (rInK false x y H Q ∨ rInD Γ.K x y H Q)
abbrev rNotInA : R2 := fun x y H Q => rInS true x y H Q ∨ (rInK true x y H Q ∨ rNotInD Γ.K x y H Q)
theorem op_inA (hK : X.K = Γ.K) (hu : X.A.units + 65 < cLine) : OpR X (compareOp .In) (rInA (Γ := Γ)) := by
  unfold rInA
  rw [← hK]
  exact op_in_str.or ((op_inK (by omega)).or (op_inD hu))
theorem op_notInA (hK : X.K = Γ.K) (hu : X.A.units + 65 < cLine) : OpR X (compareOp .NotIn) (rNotInA (Γ := Γ)) := by
  unfold rNotInA
  rw [← hK]
  exact op_notin_str.or ((op_notinK (by omega)).or (op_notInD hu))
theorem semIn_ok {x y : Val} {M : Mem} {H : Hp} {u v : HV} {Q : Bool → Prop} (s : SimM Γ M H) (rx : RV Γ H x u) (ry : RV Γ H y v) (h : semIn Γ.G x y M Q) :
    (∃ i j, u = .str i ∧ v = .str j ∧ Q (!(Builtin.Str.occurrences j i 0 j.length 1).isEmpty)) ∨ (∃ a o, v = .ref a ∧ DGet H a u o ∧ Q o.isSome) ∨
      ∃ d ds, Dp Γ.K H u d ∧ Dp Γ.K H v (.list ds) ∧ SeqAt.shaped d = true ∧ SeqAt.shaped (.list ds) = true ∧ Q (ds.any fun z => PyData.eqv z d) := by
  cases y <;> try exact (show False from h).elim
  · cases x <;> try exact (show False from h).elim
    cases rx; cases ry
    exact .inl ⟨_, _, rfl, rfl, h⟩
  · rename_i a
    cases ry
    have h : (match M a with
      | some (.dct kvs) => isKey x = true ∧ Q (lookK x kvs).isSome
      | some (.lst _) => ∃ d ds, Dm M x d ∧ Dm M (.ref a) (.list ds) ∧ SeqAt.shaped d = true ∧ SeqAt.shaped (.list ds) = true ∧ Q (ds.any fun z => PyData.eqv z d)
      | _ => False) := h
    cases ea : M a with
    | none => rw [ea] at h; exact h.elim
    | some oa =>
      rw [ea] at h
      cases oa <;> try exact (show False from h).elim
      · obtain ⟨d, ds, h1, h2, h3, h4, h5⟩ := h
        exact .inr (.inr ⟨d, ds, h1.dp s rx, h2.dp s (.ref a), h3, h4, h5⟩)
      · obtain ⟨h1, h2⟩ := h
        obtain ⟨k, ek⟩ := keyOf_is h1
        obtain ⟨ks, e1, r1⟩ := s.dct ea
        rw [look_isSome ek r1] at h2
        exact .inr (.inl ⟨a, _, rfl, by rw [keyOf_rv ek rx]; exact .k e1, h2⟩)
theorem ok_in : R2ok Γ .in_ (rInA (Γ := Γ)) := by
  intro x y M H u v Q R s rx ry h k
  rcases semIn_ok (Q := fun b => Q (.bool b) M) s rx ry h with ⟨i, j, e1, e2, q⟩ | ⟨a, o, e1, g, q⟩ | ⟨d, ds, h1, h2, h3, h4, q⟩
  · exact .inl ⟨i, j, e1, e2, k.now s q (.bl _)⟩
  · exact .inr (.inl ⟨a, o, e1, g, k.now s q (.bl _)⟩)
  · exact .inr (.inr ⟨d, ds, h1, h2, h3, h4, k.now s q (.bl _)⟩)
theorem ok_notin : R2ok Γ .notin (rNotInA (Γ := Γ)) := by
  intro x y M H u v Q R s rx ry h k
  rcases semIn_ok (Q := fun b => Q (.bool (!b)) M) s rx ry h with ⟨i, j, e1, e2, q⟩ | ⟨a, o, e1, g, q⟩ | ⟨d, ds, h1, h2, h3, h4, q⟩
  · exact .inl ⟨i, j, e1, e2, k.now s q (.bl _)⟩
  · exact .inr (.inl ⟨a, o, e1, g, k.now s q (.bl _)⟩)
  · exact .inr (.inr ⟨d, ds, h1, h2, h3, h4, k.now s q (.bl _)⟩)

/-! ### subscripts -/
theorem posIx_eq {n : Nat} {i : Int} : posIx n i = ixN n i := by
  unfold posIx ixN
  by_cases h0 : 0 ≤ i
  · simp only [if_pos h0]
  · simp only [if_neg h0]
theorem ix_dict (hu : X.A.units + 1 < cLine) : IxR X (fun x y H Q => ∃ a v, x = .ref a ∧ DGet H a y (some v) ∧ Q v H) := by
  intro value slice pins s σ H x y v u Q I rx ry ⟨a, z, ex, g, q⟩ hs
  subst ex
  obtain rfl : v = Value.ref a := rx
  exact tail_any (dict_typeIs I g) PySem.F.slot_dict_getitem.lookup (d_getItem hu I g ry fun w' s3 I3 rw' => ⟨z, H, I3, rw', q⟩) hs
abbrev rIxA : R2 := fun x y H Q => rIx Γ.K x y H Q ∨ ∃ a v, x = .ref a ∧ DGet H a y (some v) ∧ Q v H
theorem ix_all (hK : X.K = Γ.K) (hu : X.A.units + 1 < cLine) : IxR X (rIxA (Γ := Γ)) := by
  unfold rIxA
  rw [← hK]
  exact ix_seq.or (ix_dict hu)
theorem atN_of {α : Type} {xs : List α} {i : Int} {Q : α → Prop} (h : atN xs i Q) : ∃ j v, posIx xs.length i = some j ∧ xs[j]? = some v ∧ Q v := by
  unfold atN at h
  cases e : posIx xs.length i with
  | none => rw [e] at h; exact h.elim
  | some j =>
    rw [e] at h
    cases ec : xs[j]? with
    | none => simp only [ec] at h
    | some c => simp only [ec] at h; exact ⟨j, c, rfl, ec, h⟩
theorem atI_of {α : Type} {xs : List α} {i : Int} {j : Nat} {v : α} (h : posIx xs.length i = some j) (e : xs[j]? = some v) : atI xs i = some v := by
  unfold atI
  rw [← posIx_eq, h]
  exact e
theorem ints_get : ∀ {is : List Int} {j : Nat} {v : Int}, is[j]? = some v → (is.map L2.V.int)[j]? = some (.int v) := fun {is j v} h => by
  rw [List.getElem?_map, h]; rfl
theorem ok_at : R2ok Γ .at_ (rIxA (Γ := Γ)) := by
  intro x y M H u v Q R s rx ry h k
  cases x <;> try exact (show False from h).elim
  · cases y <;> try exact (show False from h).elim
    rename_i z i
    cases rx; cases ry
    obtain ⟨h0, h⟩ := h
    obtain ⟨j, c, e, ec, h⟩ := atN_of h
    exact .inl (.inr (.inr ⟨z, i, c, rfl, rfl, h0, atI_of e ec, k.now s h (.str _)⟩))
  · cases y <;> try exact (show False from h).elim
    rename_i xs i
    cases rx; cases ry
    rename_i a ys et r
    obtain ⟨j, c, e, ec, h⟩ := atN_of h
    obtain ⟨c', h1, h2⟩ := r.get ec
    exact .inl (.inr (.inl ⟨a, ys, i, c', rfl, rfl, SqT.of et, atI_of (by rw [← r.length]; exact e) h1, k.now s h h2⟩))
  · rename_i a
    cases rx
    replace h : atR M a y fun v => Q v M := h
    unfold atR at h
    cases ea : M a with
    | none => rw [ea] at h; exact h.elim
    | some oa =>
      rw [ea] at h
      cases oa <;> try exact (show False from h).elim
      · rename_i xs
        cases y <;> try exact (show False from h).elim
        rename_i i
        cases ry
        obtain ⟨ys, e1, r⟩ := s.lst ea
        obtain ⟨j, c, e, ec, h⟩ := atN_of (show atN xs i fun v => Q v M from h)
        obtain ⟨c', h1, h2⟩ := r.get ec
        exact .inl (.inl ⟨a, ys, i, c', rfl, rfl, SqL.of e1, atI_of (by rw [← r.length]; exact e) h1, k.now s h h2⟩)
      · rename_i kvs
        obtain ⟨h1, h2⟩ := (show atD kvs y fun v => Q v M from h)
        obtain ⟨kk, ek⟩ := keyOf_is h1
        obtain ⟨ks, e1, r⟩ := s.dct ea
        cases el : lookK y kvs with
        | none => simp only [el] at h2
        | some c =>
          simp only [el] at h2
          obtain ⟨c', g1, g2⟩ := (look_rel ek r).1 c el
          refine .inr ⟨a, c', rfl, ?_, k.now s h2 g2⟩
          rw [keyOf_rv ek ry, ← g1]
          exact .k e1
  · cases y <;> try exact (show False from h).elim
    rename_i i
    cases rx; cases ry
    obtain ⟨j, c, e, ec, h⟩ := atN_of h
    exact .inl (.inl ⟨Γ.sAd, _, i, .int c, rfl, rfl, s.sq, atI_of (by rw [List.length_map]; exact e) (ints_get ec), k.now s h (.int _)⟩)
/-! ### stores by place or key -/
abbrev rSetK : TSet := fun o i v H Q => ∃ a H4, o = .ref a ∧ DPut H a i v H4 ∧ Q H4
theorem set_dict (hu : X.A.units + 1 < cLine) : PSet X rSetK := by
  intro pins s σ H o i v ov iv u Q I ro ri rv ⟨a, H4, eo, g, q⟩
  subst eo
  obtain rfl : ov = Value.ref a := ro
  exact d_setItem hu I g ri rv fun s4 I4 => ⟨H4, I4, q⟩
abbrev rSetA : TSet := fun o i v H Q => rSetL o i v H Q ∨ rSetK o i v H Q
theorem set_all (hu : X.A.units + 1 < cLine) : PSet X rSetA := by
  intro pins s σ H o i v ov iv u Q I ro ri rv h
  rcases h with h | h
  · exact set_list pins s σ H o i v ov iv u Q I ro ri rv h
  · exact set_dict hu pins s σ H o i v ov iv u Q I ro ri rv h
theorem ok_set {o i v : Val} {M : Mem} {H : Hp} {uo ui uv : HV} {Q : Mem → Prop} {R : Hp → Prop} (s : SimM Γ M H) (ro : RV Γ H o uo) (ri : RV Γ H i ui) (rv : RV Γ H v uv) (h : semSet o i v M Q)
    (k : ∀ M' H', Q M' → SimM Γ M' H' → Ste M H M' H' → R H') : rSetA uo ui uv H R := by
  cases o <;> try exact (show False from h).elim
  rename_i a
  cases ro
  replace h : setR M a i v Q := h
  unfold setR at h
  cases ea : M a with
  | none => rw [ea] at h; exact h.elim
  | some oa =>
    rw [ea] at h
    cases oa <;> try exact (show False from h).elim
    · rename_i xs
      cases i <;> try exact (show False from h).elim
      rename_i i
      cases ri
      replace h : setL M a xs (.int i) v Q := h
      unfold setL at h
      simp only at h
      obtain ⟨ys, e1, r⟩ := s.lst ea
      cases e : posIx xs.length i with
      | none => rw [e] at h; exact h.elim
      | some j =>
        rw [e] at h
        refine .inl ⟨a, ys, i, j, rfl, rfl, e1, by rw [← r.length, ← posIx_eq]; exact e, ?_⟩
        exact k _ _ h (sim_put s ea ⟨_, upd_same, (r.set rv j).mono ((ste_put (m := .lst []) ea).tup s)⟩) (ste_put ea)
    · rename_i kvs
      obtain ⟨h1, h2, h3⟩ := h
      obtain ⟨kk, ek⟩ := keyOf_is h1
      obtain ⟨ks, e1, r⟩ := s.dct ea
      refine .inr ⟨a, upd H a (.dK (putK ks kk uv)), rfl, ?_, ?_⟩
      · rw [keyOf_rv ek ri]
        exact .k e1 (by rw [← r.length]; exact h2)
      · exact k _ _ h3 (sim_put s ea ⟨_, upd_same, (set_rel ek rv r).mono ((ste_put (m := .lst []) ea).tup s)⟩) (ste_put ea)
/-! ### truth, length, kinds -/
theorem truth_ok {x : Val} {M : Mem} {H : Hp} {u : HV} {b : Bool} (s : SimM Γ M H) (rx : RV Γ H x u) (h : truthB Γ.G M x = some b) : TruV Γ.K u H b := by
  cases x with
  | none => cases rx; cases h; exact rfl
  | bool c => cases rx; cases h; exact rfl
  | int i => cases rx; cases h; exact rfl
  | str z =>
    cases rx
    have h : (if z.length ≤ sizeLine then some ((z.length : Int) != 0) else none) = some b := h
    by_cases hz : z.length ≤ sizeLine
    · rw [if_pos hz] at h; cases h; exact ⟨hz, rfl⟩
    · rw [if_neg hz] at h; cases h
  | tup vs =>
    cases rx with
    | tup e r => cases h; exact .inr (.inl ⟨_, SqT.of e, by rw [r.isEmpty]⟩)
  | ref a =>
    cases rx
    have h : (match M a with
      | some (.lst xs) => some (!xs.isEmpty)
      | some (.dct kvs) => some (!kvs.isEmpty)
      | _ => Option.none) = some b := h
    cases ea : M a with
    | none => rw [ea] at h; cases h
    | some oa =>
      rw [ea] at h
      cases oa <;> cases h
      · obtain ⟨ys, e1, r⟩ := s.lst ea
        exact .inl ⟨_, SqL.of e1, by rw [r.isEmpty]⟩
      · obtain ⟨ys, e1, r⟩ := s.dct ea
        refine .inr (.inr ⟨_, e1, ?_⟩)
        have := r.length
        rename_i kvs
        cases kvs <;> cases ys <;> first | rfl | simp at this
  | scr =>
    cases rx; cases h
    exact .inl ⟨_, s.sq, by simp⟩
abbrev r1 := HV → Hp → L2.VK → Prop
def C1ok (Γ : SG) (o : Op1) (r : List HV → Hp → L2.VK → Prop) : Prop := R1ok Γ o (fun u H Q => r [u] H Q)
theorem CallR.or {f : Value} {r r' : List HV → Hp → L2.VK → Prop} (h : CallR X f r) (h' : CallR X f r') : CallR X f (fun x H Q => r x H Q ∨ r' x H Q) := by
  intro pins s σ H xs us Q I rx q
  rcases q with q | q
  · exact h pins s σ H xs us Q I rx q
  · exact h' pins s σ H xs us Q I rx q
abbrev rLenA (Γ : SG) : List HV → Hp → L2.VK → Prop := fun xs H Q => (∃ x n, xs = [x] ∧ LenV Γ.K x H n ∧ Q (.int n) H) ∨ (∃ p, ∃ kvs : List (Key × HV), xs = [.ref p] ∧ Rd H p (.dK kvs) ∧ Q (.int kvs.length) H)
theorem call_lenKA : CallR X (.builtin "len") (fun xs H Q => ∃ p, ∃ kvs : List (Key × HV), xs = [.ref p] ∧ Rd H p (.dK kvs) ∧ Q (.int kvs.length) H) := by
  intro pins s σ H xs us Q I r ⟨p, kvs, e, h, q⟩
  subst e
  obtain ⟨u, rfl, rx⟩ := vals1 r
  obtain rfl : u = Value.ref p := rx
  exact d_len I h fun t s' I' => ⟨.int kvs.length, H, I', ⟨_, rfl⟩, q⟩
theorem call_lenA (hK : X.K = Γ.K) : CallR X (.builtin "len") (rLenA Γ) := by
  unfold rLenA
  rw [← hK]
  exact call_len.or call_lenKA
theorem ok_len : C1ok Γ .len (rLenA Γ) := by
  intro x M H u Q R s rx h k
  cases x with
  | str z => cases rx; exact .inl ⟨_, _, rfl, ⟨h.1, rfl⟩, k.now s h.2 (.int _)⟩
  | tup vs =>
    cases rx with
    | tup e r => exact .inl ⟨_, _, rfl, .inr ⟨_, SqT.of e, rfl⟩, by rw [← r.length]; exact k.now s h (.int _)⟩
  | ref a =>
    cases rx
    have h : (match M a with | some (.lst xs) => Q (.int xs.length) M | some (.dct kvs) => Q (.int kvs.length) M | _ => False) := h
    cases ea : M a with
    | none => rw [ea] at h; exact h.elim
    | some oa =>
      rw [ea] at h
      cases oa with
      | lst xs =>
        obtain ⟨ys, e1, r⟩ := s.lst ea
        exact .inl ⟨_, _, rfl, .inl ⟨_, SqL.of e1, rfl⟩, by rw [← r.length]; exact k.now s h (.int _)⟩
      | dct xs =>
        obtain ⟨ys, e1, r⟩ := s.dct ea
        exact .inr ⟨_, _, rfl, .inl e1, by rw [← r.length]; exact k.now s h (.int _)⟩
      | exc c fs => exact (show False from h).elim
  | scr =>
    cases rx
    exact .inl ⟨_, _, rfl, .inl ⟨_, s.sq, rfl⟩, by rw [List.length_map]; exact k.now s h (.int _)⟩
  | none => exact (show False from h).elim
  | bool b => exact (show False from h).elim
  | int b => exact (show False from h).elim
theorem ok_abs : C1ok Γ .abs (fun xs H Q => ∃ i, xs = [.int i] ∧ Q (.int (if i < 0 then -i else i)) H) := by
  intro x M H u Q R s rx h k
  cases x <;> try exact (show False from h).elim
  rename_i i
  cases rx
  refine ⟨_, rfl, ?_⟩
  have e : (if i < 0 then -i else i) = (i.natAbs : Int) := by split <;> omega
  rw [e]
  exact k.now s h (.int _)
theorem ok_int : C1ok Γ .int_ (fun xs H Q => (∃ i, xs = [.int i] ∧ Q (.int i) H) ∨ ∃ k, xs = [.bl k] ∧ Q (.int (if k then 1 else 0)) H) := by
  intro x M H u Q R s rx h k
  cases x <;> try exact (show False from h).elim
  · cases rx; exact .inr ⟨_, rfl, k.now s h (.int _)⟩
  · cases rx; exact .inl ⟨_, rfl, k.now s h (.int _)⟩
abbrev rListA (Γ : SG) : List HV → Hp → L2.VK → Prop := fun xs H Q => ∃ p ys, xs = [.ref p] ∧ (SqL Γ.K H p ys ∨ SqT Γ.K H p ys) ∧ ∀ l, H l = none → Q (.ref l) (upd H l (.lst ys))
theorem ok_list : C1ok Γ .list_ (rListA Γ) := by
  intro x M H u Q R s rx h k
  cases x <;> try exact (show False from h).elim
  · cases rx with
    | tup e r => exact ⟨_, _, rfl, .inr (SqT.of e), newL_ok s r h k⟩
  · rename_i a
    cases rx
    have h : (match M a with | some (.lst xs) => newL xs M Q | _ => False) := h
    cases ea : M a with
    | none => rw [ea] at h; exact h.elim
    | some oa =>
      rw [ea] at h
      cases oa <;> try exact (show False from h).elim
      obtain ⟨ys, e1, r⟩ := s.lst ea
      exact ⟨_, _, rfl, .inl (SqL.of e1), newL_ok s r h k⟩
theorem tup_ok {xs : List Val} {ys : List HV} {M : Mem} {H : Hp} {Q : VK} {R : L2.VK} (s : SimM Γ M H) (r : RVs Γ H xs ys) (h : Q (.tup xs) M) (k : kV Γ M H Q R) : ∀ p, H p = none → R (.ref p) (upd H p (.tup ys)) := fun p hp =>
  k _ _ _ _ h (.tup upd_same (r.mono ((ste_side hp).tup s))) (sim_side s hp) (ste_side hp)
abbrev rTupleA (Γ : SG) : List HV → Hp → L2.VK → Prop := fun xs H Q => ∃ p ys, xs = [.ref p] ∧ ((SqL Γ.K H p ys ∧ ∀ l, H l = none → Q (.ref l) (upd H l (.tup ys))) ∨ (SqT Γ.K H p ys ∧ Q (.ref p) H))
theorem ok_tuple : C1ok Γ .tuple_ (rTupleA Γ) := by
  intro x M H u Q R s rx h k
  cases x <;> try exact (show False from h).elim
  · cases rx with
    | tup e r => exact ⟨_, _, rfl, .inr ⟨SqT.of e, k.now s h (.tup e r)⟩⟩
  · rename_i a
    cases rx
    have h : (match M a with | some (.lst xs) => Q (.tup xs) M | _ => False) := h
    cases ea : M a with
    | none => rw [ea] at h; exact h.elim
    | some oa =>
      rw [ea] at h
      cases oa <;> try exact (show False from h).elim
      obtain ⟨ys, e1, r⟩ := s.lst ea
      exact ⟨_, _, rfl, .inl ⟨SqL.of e1, tup_ok s r h k⟩⟩
end
end MP
/-! Expressions: the layer's rules with the readings made of what a term asks. -/
namespace MP
open PySem L2
open PySem.Spec PyProof.Rows
section
variable {Γ : SG} {W : WX}
theorem te_seq {wa : WE} {k : Val → Sg → Mem → VK → XK → Prop} {s : L2.St} {H : Hp} {R R1 : L2.VK}
    (h : TE' Γ W (fun σ M Q X => wa σ M (fun x M1 => k x σ M1 Q X) X) s H R)
    (hk : ∀ x u σ M1 H1 Q X, SimM Γ M1 H1 → SimS Γ H1 σ s → RV Γ H1 x u → k x σ M1 Q X → LkE Γ W X M1 s H1 → kV Γ M1 H1 Q R → R1 u H1) : TE' Γ W wa s H R1 := by
  obtain ⟨σ, M, Q, X, sm, ss, hw, lk, kv⟩ := h
  exact ⟨σ, M, _, X, sm, ss, hw, lk, fun x M1 u H1 q r sm1 st => hk x u σ M1 H1 Q X sm1 (ss.mono (st.tup sm)) r q (lk.step st) (kv.step st)⟩
theorem te_seqs {wa : Sg → Mem → (List Val → Mem → Prop) → XK → Prop} {k : List Val → Sg → Mem → VK → XK → Prop} {s : L2.St} {H : Hp} {R : L2.VK} {R1 : List HV → Hp → Prop}
    (h : TE' Γ W (fun σ M Q X => wa σ M (fun x M1 => k x σ M1 Q X) X) s H R)
    (hk : ∀ x u σ M1 H1 Q X, SimM Γ M1 H1 → SimS Γ H1 σ s → RVs Γ H1 x u → k x σ M1 Q X → LkE Γ W X M1 s H1 → kV Γ M1 H1 Q R → R1 u H1) : TA' Γ W wa s H R1 := by
  obtain ⟨σ, M, Q, X, sm, ss, hw, lk, kv⟩ := h
  exact ⟨σ, M, _, X, sm, ss, hw, lk, fun x M1 u H1 q r sm1 st => hk x u σ M1 H1 Q X sm1 (ss.mono (st.tup sm)) r q (lk.step st) (kv.step st)⟩

/-- where a body's text is read: the names by slot, the scope's names, how an exception is let out -/
structure Gd (Γ : SG) (N : List Str) (ns : List (Str × NameKind)) (W : WX) (k : Nat) (X : Cx) : Prop where
  hP : X.prog = Γ.P
  hw : X.w = Γ.w
  hK : X.K = Γ.K
  hmg : X.mg = Γ.mg
  hbase : X.base = Γ.base
  hN : X.N = N
  nd : N.Nodup
  ns : X.env.scope.names = ns
  kd : X.env.scope.kind = .function
  calm : X.calm = true
  tk : Takes X W
  room : Room k X.A
  gA : X.A.guards = some []
variable {N : List Str} {ns : List (Str × NameKind)} {k : Nat} {X : Cx}
theorem Gd.u (g : Gd Γ N ns W k X) : X.A.units + 64 < cLine := g.room.units
/-- room for comparisons of data a step deeper -/
def isVis : Option NameKind → Bool
  | some .local => true
  | some .cell => true
  | some .free => true
  | _ => false
theorem vis_of (g : Gd Γ N ns W k X) {x : Str} (h : isVis (ns.lookup x) = true) : Vis X.env.scope x := by
  unfold Vis
  rw [g.ns]
  cases e : ns.lookup x with
  | none => rw [e] at h; cases h
  | some q => rw [e] at h; cases q <;> first | exact .inl rfl | exact .inr (.inl rfl) | exact .inr (.inr rfl) | cases h
theorem gl_of (g : Gd Γ N ns W k X) {x : Str} (h : ns.lookup x = some .globalImplicit) : Gl X x := by
  unfold Gl Env.kindOf
  rw [g.ns]
  exact h

/-! ### names, constants -/
theorem je_con {e : Expr} {v : Val} {u : HV} (h : PE X e (tC u)) (r : ∀ H, RV Γ H v u) {G : Glo} {C : Calls} : PE X e (TE' Γ W (wpE G C (.con v))) :=
  pe_imp h fun s H R ⟨σ, M, Q, Xk, sm, ss, hw, lk, kv⟩ => kv.now sm hw (r H)
theorem je_var {i : Nat} {x : Str} {pos : Pos} {G : Glo} {C : Calls} (g : Gd Γ N ns W k X) (hi : N[i]? = some x) (hv : isVis (ns.lookup x) = true) (hd : (x == ("__debug__" : Str)) = false) (hc : (x == ("__classdict__" : Str)) = false) :
    PE X (.Name x pos) (TE' Γ W (wpE G C (.var i))) := by
  refine pe_imp (pe_var (i := i) (by rw [g.hN]; exact hi) (vis_of g hv) hd hc) fun s H R ⟨σ, M, Q, Xk, sm, ss, hw, lk, kv⟩ => ?_
  have hw : (match gets σ i with | some v => Q v M | none => False) := hw
  cases e : gets σ i with
  | none => rw [e] at hw; exact hw.elim
  | some v =>
    rw [e] at hw
    obtain ⟨u, h1, h2⟩ := ss i v e
    exact ⟨u, h1, kv.now sm hw h2⟩

/-! ### operators -/
theorem jt_op2 {o : Op2} {r : R2} {a b : E} {G : Glo} {C : Calls} (eG : G = Γ.G) (ok : R2ok Γ o r) {s : L2.St} {H : Hp} {R : L2.VK} (h : TE' Γ W (wpE G C (.op2 o a b)) s H R) : tOp r (TE' Γ W (wpE G C a)) (TE' Γ W (wpE G C b)) s H R := by
  subst eG
  refine te_seq (wa := wpE Γ.G C a) (k := fun x σ M1 Q X => wpE Γ.G C b σ M1 (fun y M2 => sem2 Γ.G o x y M2 Q) X) (by simpa only [wpE] using h) fun x u σ M1 H1 Q Xk sm ss rx q lk kv => ?_
  exact ⟨σ, M1, _, Xk, sm, ss, q, lk, fun y M2 v H2 q2 ry sm2 st2 => ok x y M2 H2 u v Q R sm2 (rx.mono (st2.tup sm)) ry q2 (kv.step st2)⟩
theorem je_bin {o : Op2} {op : Operator} {r : R2} {a b : E} {ea eb : Expr} {pos : Pos} {G : Glo} {C : Calls} (eG : G = Γ.G) (ok : R2ok Γ o r) (ho : OpR X (binaryOp op) r) (ha : PE X ea (TE' Γ W (wpE G C a))) (hb : PE X eb (TE' Γ W (wpE G C b))) :
    PE X (.BinOp ea op eb pos) (TE' Γ W (wpE G C (.op2 o a b))) := pe_imp (pe_op ho ha hb) fun s H R h => jt_op2 eG ok h
theorem je_cmp {o : Op2} {op : CmpOp} {r : R2} {a b : E} {ea eb : Expr} {pos : Pos} {G : Glo} {C : Calls} (eG : G = Γ.G) (ok : R2ok Γ o r) (ho : OpR X (compareOp op) r) (hm : behindInMarks op eb = false) (ha : PE X ea (TE' Γ W (wpE G C a))) (hb : PE X eb (TE' Γ W (wpE G C b))) :
    PE X (.Compare ea [op] [eb] pos) (TE' Γ W (wpE G C (.op2 o a b))) := pe_imp (pe_cmpR ho ha hb hm) fun s H R h => jt_op2 eG ok h
/-- an operator that gives a truth value -/
def Bool2 (o : Op2) : Prop := ∀ (G : Glo) x y M (Q : VK), sem2 G o x y M Q → sem2 G o x y M fun v M' => (∃ b, v = .bool b) ∧ Q v M'
theorem bool2_semIn {G : Glo} {x y : Val} {M : Mem} {Q Q' : Bool → Prop} (h : semIn G x y M Q) (k : ∀ b, Q b → Q' b) : semIn G x y M Q' := by
  unfold semIn at *
  cases y <;> try exact h.elim
  · cases x <;> first | exact k _ h | exact h.elim
  · rename_i a
    cases ea : M a with
    | none => simp only [ea] at h
    | some oa =>
      simp only [ea] at h ⊢
      cases oa <;> try exact h.elim
      · obtain ⟨d, ds, h1, h2, h3, h4, h5⟩ := h
        exact ⟨d, ds, h1, h2, h3, h4, k _ h5⟩
      · exact ⟨h.1, k _ h.2⟩
theorem bool2_of {o : Op2} (h : o ∈ [Op2.eq, .ne, .lt, .le, .gt, .ge, .in_, .notin]) : Bool2 o := by
  intro G x y M Q q
  simp only [List.mem_cons, List.not_mem_nil, or_false] at h
  rcases h with rfl | rfl | rfl | rfl | rfl | rfl | rfl | rfl
  · obtain ⟨d, e, h1, h2, h3, h4, h5⟩ := q; exact ⟨d, e, h1, h2, h3, h4, ⟨_, rfl⟩, h5⟩
  · obtain ⟨d, e, h1, h2, h3, h4, h5⟩ := q; exact ⟨d, e, h1, h2, h3, h4, ⟨_, rfl⟩, h5⟩
  · cases x <;> cases y <;> first | exact (show False from q).elim | exact ⟨⟨_, rfl⟩, q⟩
  · cases x <;> cases y <;> first | exact (show False from q).elim | exact ⟨⟨_, rfl⟩, q⟩
  · cases x <;> cases y <;> first | exact (show False from q).elim | exact ⟨⟨_, rfl⟩, q⟩
  · cases x <;> cases y <;> first | exact (show False from q).elim | exact ⟨⟨_, rfl⟩, q⟩
  · exact bool2_semIn (G := G) (Q := fun b => Q (.bool b) M) (Q' := fun b => (∃ c, Val.bool b = .bool c) ∧ Q (.bool b) M) q fun b h => ⟨⟨_, rfl⟩, h⟩
  · exact bool2_semIn (G := G) (Q := fun b => Q (.bool (!b)) M) (Q' := fun b => (∃ c, Val.bool (!b) = .bool c) ∧ Q (.bool (!b)) M) q fun b h => ⟨⟨_, rfl⟩, h⟩
theorem truth_bool {G : Glo} {M : Mem} {b : Bool} : truthB G M (.bool b) = some b := rfl
/-- a test by a term whose value is a truth value -/
theorem tt_of {w : WE} {t : TE} {s : L2.St} {H : Hp} {R : Bool → Hp → Prop} (ht : ∀ R', TE' Γ W w s H R' → t s H R') (hb : ∀ σ M Q X, w σ M Q X → w σ M (fun v M' => (∃ b, v = .bool b) ∧ Q v M') X)
    (h : TT' Γ W w s H R) : tTest t s H R := by
  obtain ⟨σ, M, Q, Xk, sm, ss, hw, lk, kv⟩ := h
  refine ht _ ⟨σ, M, _, Xk, sm, ss, hb _ _ _ _ hw, lk, fun v M' u H' ⟨⟨b, e⟩, q⟩ r sm' st => ?_⟩
  subst e
  cases r
  obtain ⟨b', e', q'⟩ := kv _ M' H' q sm' st
  cases e'
  exact ⟨b, rfl, q'⟩
end
end MP
/-! Tests, chains, displays, calls of built-ins. -/
namespace MP
open PySem L2
open PySem.Spec PyProof.Rows
section
variable {Γ : SG} {W : WX} {N : List Str} {ns : List (Str × NameKind)} {k : Nat} {X : Cx} {C : Calls}
abbrev JE (Γ : SG) (W : WX) (C : Calls) (X : Cx) (e : Expr) (a : E) : Prop := PE X e (TE' Γ W (wpE Γ.G C a))
abbrev JT (Γ : SG) (W : WX) (C : Calls) (X : Cx) (e : Expr) (a : E) : Prop := PT X e (TT' Γ W (wpE Γ.G C a))
abbrev JA (Γ : SG) (W : WX) (C : Calls) (X : Cx) (e : List Expr) (a : Es) : Prop := PA X e (TA' Γ W (wpEs Γ.G C a))

/-! ### tests -/
def plainTest : Expr → Bool
  | .UnaryOp .Not _ _ => false
  | .BoolOp _ _ _ => false
  | .IfExp _ _ _ _ => false
  | .Compare _ _ _ _ => false
  | _ => true
theorem plainTest_eq {e : Expr} (h : plainTest e = true) {env : Env} : ∀ whole : Sem Value, isTrue e env whole = (do let v ← whole; standAt e.pos; holding [v] (truthy v)) := by
  intro whole
  cases e <;> first | rfl | cases h | skip
  rename_i op x pos
  cases op <;> first | rfl | cases h
/-- the reading as a test from the reading as a value -/
theorem tt_val {w : WE} {s : L2.St} {H : Hp} {R : Bool → Hp → Prop} (h : TT' Γ W w s H R) : TE' Γ W w s H (fun x H1 => ∃ b, TruV Γ.K x H1 b ∧ R b H1) := by
  obtain ⟨σ, M, Q, Xk, sm, ss, hw, lk, kv⟩ := h
  refine ⟨σ, M, Q, Xk, sm, ss, hw, lk, fun v M' u H' q r sm' st => ?_⟩
  obtain ⟨b, e, q'⟩ := kv v M' H' q sm' st
  exact ⟨b, truth_ok sm' r e, q'⟩
theorem jt_val (g : Gd Γ N ns W k X) {e : Expr} {a : E} (h : JE Γ W C X e a) (p : plainTest e = true) : JT Γ W C X e a :=
  pt_imp (pt_truth h (plainTest_eq p)) fun s H R q => by rw [g.hK]; exact tt_val q
theorem je_not (g : Gd Γ N ns W k X) {e : Expr} {a : E} {pos : Pos} (h : JE Γ W C X e a) : JE Γ W C X (.UnaryOp .Not e pos) (.op1 .not_ a) := by
  refine pe_imp (pe_notT h) fun s H R q => ?_
  unfold tNotT
  rw [g.hK]
  refine te_seq (wa := wpE Γ.G C a) (k := fun x σ M1 Q X => sem1 Γ.G .not_ x M1 Q) q fun x u σ M1 H1 Q Xk sm ss rx q lk kv => ?_
  obtain ⟨b, e, q⟩ := q
  exact ⟨b, truth_ok sm rx e, kv.now sm q (.bl _)⟩
theorem jt_not {e : Expr} {a : E} {pos : Pos} (h : JT Γ W C X e a) : JT Γ W C X (.UnaryOp .Not e pos) (.op1 .not_ a) := by
  refine pt_imp (pt_not h) fun s H R q => ?_
  obtain ⟨σ, M, Q, Xk, sm, ss, hw, lk, kv⟩ := q
  refine ⟨σ, M, _, Xk, sm, ss, (show wpE Γ.G C a σ M (fun x M1 => sem1 Γ.G .not_ x M1 Q) Xk from hw), lk, fun v M' H' q sm' st => ?_⟩
  obtain ⟨b, e, q⟩ := q
  obtain ⟨b', e', q'⟩ := kv _ M' H' q sm' st
  cases e'
  exact ⟨b, e, q'⟩
/-! ### and, or -/
theorem je_and (g : Gd Γ N ns W k X) {e e2 : Expr} {r : List Expr} {a b : E} {pos : Pos} (ha : JE Γ W C X e a) (hb : JE Γ W C X (.BoolOp .And (e2 :: r) pos) b) : JE Γ W C X (.BoolOp .And (e :: e2 :: r) pos) (.and_ a b) := by
  refine pe_imp (pe_andT ha hb) fun s H R q => ?_
  unfold tAndT
  rw [g.hK]
  refine te_seq (wa := wpE Γ.G C a) (k := fun x σ M1 Q X => match truthB Γ.G M1 x with | some true => wpE Γ.G C b σ M1 Q X | some false => Q x M1 | none => False) q fun x u σ M1 H1 Q Xk sm ss rx q lk kv => ?_
  cases e : truthB Γ.G M1 x with
  | none => simp only [e] at q
  | some c =>
    refine ⟨c, truth_ok sm rx e, ?_⟩
    cases c with
    | true => simp only [e] at q; exact iteT ⟨σ, M1, Q, Xk, sm, ss, q, lk, kv⟩
    | false => simp only [e] at q; exact iteF (kv.now sm q rx)
theorem je_or (g : Gd Γ N ns W k X) {e e2 : Expr} {r : List Expr} {a b : E} {pos : Pos} (ha : JE Γ W C X e a) (hb : JE Γ W C X (.BoolOp .Or (e2 :: r) pos) b) : JE Γ W C X (.BoolOp .Or (e :: e2 :: r) pos) (.or_ a b) := by
  refine pe_imp (pe_orT ha hb) fun s H R q => ?_
  unfold tOrT
  rw [g.hK]
  refine te_seq (wa := wpE Γ.G C a) (k := fun x σ M1 Q X => match truthB Γ.G M1 x with | some false => wpE Γ.G C b σ M1 Q X | some true => Q x M1 | none => False) q fun x u σ M1 H1 Q Xk sm ss rx q lk kv => ?_
  cases e : truthB Γ.G M1 x with
  | none => simp only [e] at q
  | some c =>
    refine ⟨c, truth_ok sm rx e, ?_⟩
    cases c with
    | false => simp only [e] at q; exact iteF ⟨σ, M1, Q, Xk, sm, ss, q, lk, kv⟩
    | true => simp only [e] at q; exact iteT (kv.now sm q rx)
/-- the reading as a test, opened at its first part -/
theorem tt_seq {wa : WE} {kk : Val → Sg → Mem → VK → XK → Prop} {s : L2.St} {H : Hp} {R R1 : Bool → Hp → Prop}
    (h : TT' Γ W (fun σ M Q X => wa σ M (fun x M1 => kk x σ M1 Q X) X) s H R)
    (hk : ∀ x σ M1 H1 Q X, SimM Γ M1 H1 → SimS Γ H1 σ s → kk x σ M1 Q X → LkE Γ W X M1 s H1 → (∀ v M' H', Q v M' → SimM Γ M' H' → Ste M1 H1 M' H' → ∃ b, truthB Γ.G M' v = some b ∧ R b H') → ∃ b, truthB Γ.G M1 x = some b ∧ R1 b H1) : TT' Γ W wa s H R1 := by
  obtain ⟨σ, M, Q, X, sm, ss, hw, lk, kv⟩ := h
  exact ⟨σ, M, _, X, sm, ss, hw, lk, fun x M1 H1 q sm1 st => hk x σ M1 H1 Q X sm1 (ss.mono (st.tup sm)) q (lk.step st) fun v M' H' q sm' st' => kv v M' H' q sm' (st.trans st')⟩
theorem jw_and {e e2 : Expr} {r : List Expr} {a b : E} {pos : Pos} (ha : JT Γ W C X e a) (hb : PW X (.BoolOp .And (e2 :: r) pos) (TT' Γ W (wpE Γ.G C b))) : PW X (.BoolOp .And (e :: e2 :: r) pos) (TT' Γ W (wpE Γ.G C (.and_ a b))) := by
  have h := pw_and (pos := pos) ha hb
  refine ⟨fun whole pins s σ H Q I q => h.run whole pins s σ H Q I ?_⟩
  refine tt_seq (wa := wpE Γ.G C a) (kk := fun x σ M1 Q X => match truthB Γ.G M1 x with | some true => wpE Γ.G C b σ M1 Q X | some false => Q x M1 | none => False) q fun x σ M1 H1 Q Xk sm ss q lk kv => ?_
  cases e : truthB Γ.G M1 x with
  | none => simp only [e] at q
  | some c =>
    refine ⟨c, rfl, ?_⟩
    cases c with
    | true => simp only [e] at q; exact iteT ⟨σ, M1, Q, Xk, sm, ss, q, lk, kv⟩
    | false =>
      simp only [e] at q
      obtain ⟨b, e', q'⟩ := kv x M1 H1 q sm Ste.refl
      rw [e] at e'; cases e'
      exact iteF q'
theorem jw_or {e e2 : Expr} {r : List Expr} {a b : E} {pos : Pos} (ha : JT Γ W C X e a) (hb : PW X (.BoolOp .Or (e2 :: r) pos) (TT' Γ W (wpE Γ.G C b))) : PW X (.BoolOp .Or (e :: e2 :: r) pos) (TT' Γ W (wpE Γ.G C (.or_ a b))) := by
  have h := pw_or (pos := pos) ha hb
  refine ⟨fun whole pins s σ H Q I q => h.run whole pins s σ H Q I ?_⟩
  refine tt_seq (wa := wpE Γ.G C a) (kk := fun x σ M1 Q X => match truthB Γ.G M1 x with | some false => wpE Γ.G C b σ M1 Q X | some true => Q x M1 | none => False) q fun x σ M1 H1 Q Xk sm ss q lk kv => ?_
  cases e : truthB Γ.G M1 x with
  | none => simp only [e] at q
  | some c =>
    refine ⟨c, rfl, ?_⟩
    cases c with
    | false => simp only [e] at q; exact iteF ⟨σ, M1, Q, Xk, sm, ss, q, lk, kv⟩
    | true =>
      simp only [e] at q
      obtain ⟨b, e', q'⟩ := kv x M1 H1 q sm Ste.refl
      rw [e] at e'; cases e'
      exact iteT q'
theorem je_ite {t e e2 : Expr} {c a b : E} {pos : Pos} (hc : JT Γ W C X t c) (ha : JE Γ W C X e a) (hb : JE Γ W C X e2 b) : JE Γ W C X (.IfExp t e e2 pos) (.ite c a b) := by
  refine pe_imp (pe_ifExp hc ha hb) fun s H R q => ?_
  obtain ⟨σ, M, Q, Xk, sm, ss, hw, lk, kv⟩ := q
  refine ⟨σ, M, _, Xk, sm, ss, (show wpE Γ.G C c σ M (fun x M1 => match truthB Γ.G M1 x with | some true => wpE Γ.G C a σ M1 Q Xk | some false => wpE Γ.G C b σ M1 Q Xk | none => False) Xk from hw), lk, fun x M1 H1 q sm1 st => ?_⟩
  cases e : truthB Γ.G M1 x with
  | none => simp only [e] at q
  | some d =>
    refine ⟨d, rfl, ?_⟩
    cases d with
    | true => simp only [e] at q; exact iteT ⟨σ, M1, Q, Xk, sm1, ss.mono (st.tup sm), q, lk.step st, kv.step st⟩
    | false => simp only [e] at q; exact iteF ⟨σ, M1, Q, Xk, sm1, ss.mono (st.tup sm), q, lk.step st, kv.step st⟩
/-! ### a chain of two comparisons -/
theorem je_chain {o o' : Op2} {op op' : CmpOp} {r r' : R2} {a b c : E} {ea eb ec : Expr} {pos : Pos} (ok : R2ok Γ o r) (ho : OpR X (compareOp op) r) (ok' : R2ok Γ o' r') (ho' : OpR X (compareOp op') r')
    (ha : JE Γ W C X ea a) (hb : JE Γ W C X eb b) (hc : JE Γ W C X ec c) (hm : lastMarks [op, op'] [eb, ec] = false) (hb2 : Bool2 o)
    (mk : ∀ {ta tb tc : TE}, PE X ea ta → PE X eb tb → PE X ec tc → PE X (.Compare ea [op, op'] [eb, ec] pos) (tChain r r' ta tb tc)) : JE Γ W C X (.Compare ea [op, op'] [eb, ec] pos) (.chain o o' a b c) := by
  refine pe_imp (mk ha hb hc) fun s H R q => ?_
  refine te_seq (wa := wpE Γ.G C a) (k := fun x σ M1 Q Xk => wpE Γ.G C b σ M1 (fun y M2 => sem2 Γ.G o x y M2 (fun r M3 => match r with
      | .bool true => wpE Γ.G C c σ M3 (fun z M4 => sem2 Γ.G o' y z M4 Q) Xk
      | .bool false => Q (.bool false) M3
      | _ => False)) Xk) q fun x u σ M1 H1 Q Xk sm ss rx q lk kv => ?_
  refine ⟨σ, M1, _, Xk, sm, ss, q, lk, fun y M2 v H2 q2 ry sm2 st2 => ?_⟩
  refine ok x y M2 H2 u v _ _ sm2 (rx.mono (st2.tup sm)) ry (hb2 _ _ _ _ _ q2) fun z M3 w H3 ⟨⟨bb, e⟩, q3⟩ rz sm3 st3 => ?_
  subst e
  cases rz
  refine ⟨bb, rfl, ?_⟩
  cases bb with
  | true =>
    refine iteT ⟨σ, M3, _, Xk, sm3, (ss.mono (st2.tup sm)).mono (st3.tup sm2), q3, (lk.step st2).step st3, fun z M4 wz H4 q4 rz sm4 st4 => ?_⟩
    exact ok' y z M4 H4 v wz Q R sm4 ((ry.mono (st3.tup sm2)).mono (st4.tup sm3)) rz q4 (((kv.step st2).step st3).step st4)
  | false => exact iteF (((kv.step st2).step st3).now sm3 q3 (.bl _))
/-! ### argument lists -/
def notStar : Expr → Bool
  | .Starred _ _ => false
  | _ => true
theorem starEach_ns {e : Expr} (h : notStar e = true) {es : List Expr} {env : Env} : starEach (e :: es) env = (false, eval e env) :: starEach es env := by
  cases e <;> first | rfl | cases h
def noStars (es : List Expr) : Bool := es.all notStar
theorem starEach_all : ∀ {es : List Expr} {env : Env} {pos : Pos}, noStars es = true → (backTo pos (starEach es env)).any (·.1) = false
  | [], _, _, _ => rfl
  | e :: es, env, pos, h => by
    obtain ⟨h1, h2⟩ := Bool.and_eq_true_iff.mp (show (notStar e && noStars es) = true from h)
    rw [starEach_ns h1]
    have ih := starEach_all (es := es) (env := env) (pos := pos) h2
    unfold backTo at ih ⊢
    rw [List.map_cons, List.any_cons, ih]
    rfl
theorem ja_nil : JA Γ W C X [] .nil := pa_imp pa_nil fun s H R ⟨σ, M, Q, Xk, sm, ss, hw, lk, kv⟩ => kv [] M [] H hw .nil sm Ste.refl
theorem ja_cons {e : Expr} {es : List Expr} {a : E} {r : Es} (ha : JE Γ W C X e a) (hr : JA Γ W C X es r) (hs : notStar e = true) : JA Γ W C X (e :: es) (.cons a r) := by
  refine pa_imp (pa_cons ha hr (starEach_ns hs)) fun s H R q => ?_
  obtain ⟨σ, M, Q, Xk, sm, ss, hw, lk, kv⟩ := q
  refine ⟨σ, M, _, Xk, sm, ss, (show wpE Γ.G C a σ M (fun x M1 => wpEs Γ.G C r σ M1 (fun xs M2 => Q (x :: xs) M2) Xk) Xk from hw), lk, fun x M1 u H1 q rx sm1 st => ?_⟩
  exact ⟨σ, M1, _, Xk, sm1, ss.mono (st.tup sm), q, lk.step st, fun xs M2 us H2 q2 rxs sm2 st2 => kv _ M2 _ H2 q2 (.cons (rx.mono (st2.tup sm1)) rxs) sm2 (st.trans st2)⟩
theorem ja_star (g : Gd Γ N ns W k X) {e : Expr} {p : Pos} {es : List Expr} {a : E} {r : Es} (ha : JE Γ W C X e a) (hr : JA Γ W C X es r) : JA Γ W C X (.Starred e p :: es) (.star a r) := by
  refine pa_imp (StX.pa_star ha hr) fun s H R q => ?_
  obtain ⟨σ, M, Q, Xk, sm, ss, hw, lk, kv⟩ := q
  refine ⟨σ, M, _, Xk, sm, ss, (show wpE Γ.G C a σ M (fun x M1 => match starV x M1 with | some ys => wpEs Γ.G C r σ M1 (fun xs M2 => Q (ys ++ xs) M2) Xk | none => False) Xk from hw), lk, fun x M1 u H1 q rx sm1 st => ?_⟩
  have fin : ∀ (ys : List Val) (us : List HV), RVs Γ H1 ys us → wpEs Γ.G C r σ M1 (fun xs M2 => Q (ys ++ xs) M2) Xk → TA' Γ W (wpEs Γ.G C r) s H1 (fun zs H2 => R (us ++ zs) H2) := fun ys us rys q => 
    ⟨σ, M1, _, Xk, sm1, ss.mono (st.tup sm), q, lk.step st, fun xs M2 vs H2 q2 rxs sm2 st2 => kv _ M2 _ H2 q2 ((rys.mono (st2.tup sm1)).append rxs) sm2 (st.trans st2)⟩
  cases x <;> try exact (show False from q).elim
  · cases rx with
    | tup e r' => exact ⟨_, _, rfl, .inl (SqT.of e), fin _ _ r' q⟩
  · rename_i b
    cases rx
    have q : (match starV (.ref b) M1 with | some ys => wpEs Γ.G C r σ M1 (fun xs M2 => Q (ys ++ xs) M2) Xk | none => False) := q
    unfold starV at q
    cases eb : M1 b with
    | none => simp only [eb] at q
    | some o =>
      simp only [eb] at q
      cases o <;> try exact (show False from q).elim
      obtain ⟨ys, e1, r1⟩ := sm1.lst eb
      exact ⟨_, _, rfl, .inr (SqL.of e1), fin _ _ r1 q⟩
theorem je_tup {es : List Expr} {n : Nat} {pos : Pos} {r : Es} (h : JA Γ W C X es r) : JE Γ W C X (.Tuple es n pos) (.tup r) := by
  refine pe_imp (pe_tup h) fun s H R q => ?_
  refine te_seqs (wa := wpEs Γ.G C r) (k := fun vs σ M1 Q X => vs.length ≤ sizeLine ∧ Q (.tup vs) M1) q fun vs us σ M1 H1 Q Xk sm ss rx q lk kv => ?_
  exact ⟨by rw [← rx.length]; exact q.1, tup_ok sm rx q.2 kv⟩
theorem je_lst {es : List Expr} {pos : Pos} {r : Es} (h : JA Γ W C X es r) : JE Γ W C X (.List es pos) (.lst r) := by
  refine pe_imp (pe_lst h) fun s H R q => ?_
  refine te_seqs (wa := wpEs Γ.G C r) (k := fun vs σ M1 Q X => vs.length ≤ sizeLine ∧ newL vs M1 Q) q fun vs us σ M1 H1 Q Xk sm ss rx q lk kv => ?_
  exact ⟨by rw [← rx.length]; exact q.1, newL_ok sm rx q.2 kv⟩
theorem je_dct0 {pos : Pos} : JE Γ W C X (.Dict [] [] pos) .dct0 := by
  refine pe_imp pe_dnewK fun s H R q => ?_
  obtain ⟨σ, M, Q, Xk, sm, ss, hw, lk, kv⟩ := q
  exact fun p hp => kv _ _ _ _ (hw p (sm.fresh hp)) (.ref p) (sim_new sm hp ⟨[], upd_same, trivial⟩) (ste_new hp)
/-! ### built-ins of one argument -/
theorem tcb_one {r : List HV → Hp → L2.VK → Prop} {o : Op1} {a : E} (ok : C1ok Γ o r) {s : L2.St} {H : Hp} {R : L2.VK} (q : TE' Γ W (wpE Γ.G C (.op1 o a)) s H R) : tCB r (TA' Γ W (wpEs Γ.G C (.cons a .nil))) s H R := by
  obtain ⟨σ, M, Q, Xk, sm, ss, hw, lk, kv⟩ := q
  refine ⟨σ, M, fun vs M1 => ∃ x, vs = [x] ∧ sem1 Γ.G o x M1 Q, Xk, sm, ss, ?_, lk, fun vs M1 us H1 ⟨x, e, q⟩ rx sm1 st => ?_⟩
  · have hw : wpE Γ.G C a σ M (fun x M1 => sem1 Γ.G o x M1 Q) Xk := hw
    show wpE Γ.G C a σ M (fun x M1 => ∃ y, [x] = [y] ∧ sem1 Γ.G o y M1 Q) Xk
    have e : (fun (x : Val) (M1 : Mem) => ∃ y, [x] = [y] ∧ sem1 Γ.G o y M1 Q) = fun x M1 => sem1 Γ.G o x M1 Q := by
      funext x M1
      apply propext
      exact ⟨fun ⟨y, e, q⟩ => by cases e; exact q, fun q => ⟨x, rfl, q⟩⟩
    rw [e]
    exact hw
  · subst e
    obtain ⟨u, rfl, rx1⟩ := rx.one
    exact ok x M1 H1 u Q R sm1 rx1 q (kv.step st)
theorem je_bi {o : Op1} {id : String} {x : Str} {e : Expr} {a : E} {p pos : Pos} {r : List HV → Hp → L2.VK → Prop} (g : Gd Γ N ns W k X) (hc : CallR X (.builtin id) r) (ok : C1ok Γ o r) (hx : ns.lookup x = some .globalImplicit) (hm : Γ.mg x = none) (hv : bootBuiltins x = some (.builtin id))
    (hn : x ≠ "__name__") (hd : (x == ("__debug__" : Str)) = false) (ha : JE Γ W C X e a) (hs : notStar e = true) : JE Γ W C X (.Call (.Name x p) [e] [] pos) (.op1 o a) :=
  pe_imp (pe_callB hc (gl_of g hx) (by rw [g.hmg]; exact hm) hv (ja_cons ha ja_nil hs) hn hd (starEach_ns hs) (starEach_all rfl)) fun s H R q => tcb_one ok q
theorem je_bt {o : Op1} {T : String} {x : Str} {e : Expr} {a : E} {p pos : Pos} {r : List HV → Hp → L2.VK → Prop} (g : Gd Γ N ns W k X) (hc : CallR X (.type T) r) (ok : C1ok Γ o r) (hx : ns.lookup x = some .globalImplicit) (hm : Γ.mg x = none) (hv : bootBuiltins x = some (.type T))
    (hn : x ≠ "__name__") (hd : (x == ("__debug__" : Str)) = false) (ha : JE Γ W C X e a) (hs : notStar e = true) : JE Γ W C X (.Call (.Name x p) [e] [] pos) (.op1 o a) :=
  pe_imp (pe_callTy hc (gl_of g hx) (by rw [g.hmg]; exact hm) hv (ja_cons ha ja_nil hs) hn hd (starEach_ns hs) (starEach_all rfl)) fun s H R q => tcb_one ok q
end
end MP
/-! Targets, what is walked, comprehensions. -/
namespace MP
open PySem L2
open PySem.Spec PyProof.Rows
section
variable {Γ : SG} {W : WX} {N : List Str} {ns : List (Str × NameKind)} {k : Nat} {X : Cx} {C : Calls}
theorem gets_sets_same {v : Option Val} : ∀ {σ : Sg} {i : Nat} {u : Val}, gets (sets σ i v) i = some u → v = some u
  | [], _, _, h => by simp [sets, gets] at h
  | _ :: _, 0, _, h => by simpa [sets, gets] using h
  | _ :: r, i + 1, u, h => gets_sets_same (σ := r) (i := i) (by simpa [sets, gets] using h)
theorem gets_sets_ne {v : Option Val} : ∀ {σ : Sg} {i j : Nat}, i ≠ j → gets (sets σ i v) j = gets σ j
  | [], _, _, _ => by simp [sets]
  | _ :: _, 0, 0, h => absurd rfl h
  | _ :: _, 0, j + 1, _ => by simp [sets, gets]
  | _ :: _, i + 1, 0, _ => by simp [sets, gets]
  | _ :: r, i + 1, j + 1, h => by
    simp only [sets, gets]
    exact gets_sets_ne (σ := r) fun e => h (by rw [e])
theorem sims_set {H : Hp} {σ : Sg} {s : L2.St} {i : Nat} {v : Val} {u : HV} (x : SimS Γ H σ s) (r : RV Γ H v u) (hi : i < s.length) : SimS Γ H (sets σ i (some v)) (s.set i (some u)) := fun j w e => by
  by_cases h : i = j
  · subst h
    have := gets_sets_same e
    cases this
    exact ⟨u, by rw [List.getElem?_set_self hi], r⟩
  · rw [gets_sets_ne h] at e
    obtain ⟨u', a, b⟩ := x j w e
    exact ⟨u', by rw [List.getElem?_set_ne h]; exact a, b⟩
theorem sims_unset {H : Hp} {σ : Sg} {s : L2.St} {i : Nat} (x : SimS Γ H σ s) : SimS Γ H (sets σ i none) (s.set i none) := fun j w e => by
  by_cases h : i = j
  · subst h
    have := gets_sets_same e
    cases this
  · rw [gets_sets_ne h] at e
    obtain ⟨u', a, b⟩ := x j w e
    exact ⟨u', by rw [List.getElem?_set_ne h]; exact a, b⟩
theorem sims_wipe {H : Hp} {σ : Sg} {s : L2.St} (x : SimS Γ H σ s) : ∀ own : List Nat, SimS Γ H (wipes σ own) (wipe s own)
  | [] => x
  | v :: vs => sims_unset (sims_wipe x vs)
/-- the slots outside ids are as they were -/
def Upd (ids : List Nat) (s s' : L2.St) : Prop := s'.length = s.length ∧ ∀ i, i ∉ ids → s'[i]? = s[i]?
theorem Upd.refl {ids : List Nat} {s : L2.St} : Upd ids s s := ⟨rfl, fun _ _ => rfl⟩
theorem Upd.trans {i1 i2 : List Nat} {s s1 s2 : L2.St} (a : Upd i1 s s1) (b : Upd i2 s1 s2) : Upd (i1 ++ i2) s s2 :=
  ⟨b.1.trans a.1, fun i h => (b.2 i fun z => h (List.mem_append_right _ z)).trans (a.2 i fun z => h (List.mem_append_left _ z))⟩
theorem wipe_at : ∀ {vs : List Nat} {s : L2.St} {i : Nat}, i ∈ vs → i < s.length → (wipe s vs)[i]? = some none
  | v :: vs, s, i, h, hl => by
    unfold wipe
    by_cases e : v = i
    · subst e; rw [List.getElem?_set_self (by rw [wipe_length]; exact hl)]
    · rw [List.getElem?_set_ne e]
      exact wipe_at (by rcases List.mem_cons.mp h with z | z; exact absurd z.symm e; exact z) hl
theorem wipe_upd {ids vs : List Nat} {s s' : L2.St} (u : Upd ids s s') (h : ∀ i ∈ ids, i ∈ vs) : wipe s' vs = wipe s vs := by
  apply List.ext_getElem?
  intro i
  by_cases hi : i ∈ vs
  · by_cases hl : i < s.length
    · rw [wipe_at hi hl, wipe_at hi (by rw [u.1]; exact hl)]
    · rw [List.getElem?_eq_none (by rw [wipe_length, u.1]; omega), List.getElem?_eq_none (by rw [wipe_length]; omega)]
  · rw [wipe_out hi, wipe_out hi]
    exact u.2 i fun z => hi (h i z)

/-! ### targets -/
def idsG : Tg → List Nat
  | .name i => [i]
  | .tup ts => idsGs ts
  | .sub _ _ => []
where idsGs : Tgs → List Nat
  | .nil => []
  | .cons t r => idsG t ++ idsGs r
abbrev WGf := Val → Sg → Mem → (Sg → Mem → Prop) → XK → Prop
def kG (Γ : SG) (ids : List Nat) (M : Mem) (H : Hp) (s : L2.St) (Q : Sg → Mem → Prop) (R : L2.St → Hp → Prop) : Prop := ∀ σ' M' s' H', Q σ' M' → SimM Γ M' H' → SimS Γ H' σ' s' → Ste M H M' H' → Upd ids s s' → R s' H'
def TG' (Γ : SG) (W : WX) (ids : List Nat) (w : WGf) : TG := fun u s H R => ∃ v σ M Q X, RV Γ H v u ∧ SimM Γ M H ∧ SimS Γ H σ s ∧ w v σ M Q X ∧ LkE Γ W X M s H ∧ kG Γ ids M H s Q R
def TGs' (Γ : SG) (W : WX) (ids : List Nat) (w : List Val → Sg → Mem → (Sg → Mem → Prop) → XK → Prop) : TGs := fun u s H R => ∃ v σ M Q, RVs Γ H v u ∧ SimM Γ M H ∧ SimS Γ H σ s ∧ w v σ M Q noX ∧ kG Γ ids M H s Q R
abbrev JG (Γ : SG) (W : WX) (C : Calls) (X : Cx) (e : Expr) (g : Tg) : Prop := PG X e (TG' Γ W (idsG g) (wpG Γ.G C g))
abbrev JGs (Γ : SG) (W : WX) (C : Calls) (X : Cx) (e : List Expr) (g : Tgs) : Prop := PGs X e (TGs' Γ W (idsG.idsGs g) (wpGs Γ.G C g))
theorem pg_imp {e : Expr} {t t' : TG} (h : PG X e t) (k : ∀ v s H R, s.length = X.N.length → t' v s H R → t v s H R) : PG X e t' := ⟨fun pins s σ H v u Q I r q => h.run pins s σ H v u Q I r (k _ _ _ _ I.len q)⟩
theorem pgs_imp {e : List Expr} {t t' : TGs} (h : PGs X e t) (k : ∀ v s H R, t' v s H R → t v s H R) : PGs X e t' := ⟨fun pins s σ H v u Q I r q => h.run pins s σ H v u Q I r (k _ _ _ _ q)⟩
def isLoc : Option NameKind → Bool
  | some .local => true
  | some .cell => true
  | _ => false
theorem loc_of (g : Gd Γ N ns W k X) {x : Str} (h : isLoc (ns.lookup x) = true) : L2.Loc X.env.scope x := by
  unfold L2.Loc
  rw [g.ns]
  cases e : ns.lookup x with
  | none => rw [e] at h; cases h
  | some q => rw [e] at h; cases q <;> first | exact .inl rfl | exact .inr rfl | cases h
theorem jg_name (g : Gd Γ N ns W k X) {i : Nat} {x : Str} {pos : Pos} (hi : N[i]? = some x) (hl : isLoc (ns.lookup x) = true) (hf : X.fn x = true ∨ ns.lookup x = some .local) : JG Γ W C X (.Name x pos) (.name i) := by
  refine pg_imp (pg_name (i := i) (by rw [g.hN]; exact g.nd) (by rw [g.hN]; exact hi) (loc_of g hl) (by rw [g.ns]; exact hf)) fun u s H R hlen ⟨v, σ, M, Q, Xk, r, sm, ss, hw, lk, kv⟩ => ?_
  have hi' : i < s.length := by
    rw [hlen, g.hN]
    exact (List.getElem?_eq_some_iff.mp hi).1
  exact kv _ M _ H hw sm (sims_set ss r hi') Ste.refl ⟨List.length_set, fun j hj => List.getElem?_set_ne fun z => hj (by rw [← z]; exact List.mem_singleton.mpr rfl)⟩
theorem assignEach_ns {e : Expr} (h : notStar e = true) {es : List Expr} {env : Env} : assignEach (e :: es) env = (false, assign e env) :: assignEach es env := by
  cases e <;> first | rfl | cases h
theorem assignEach_all : ∀ {es : List Expr} {env : Env}, noStars es = true → (assignEach es env).length = es.length ∧ (assignEach es env).findIdx? (·.1) = none
  | [], _, _ => ⟨rfl, rfl⟩
  | e :: es, env, h => by
    obtain ⟨h1, h2⟩ := Bool.and_eq_true_iff.mp (show (notStar e && noStars es) = true from h)
    obtain ⟨a, b⟩ := assignEach_all (es := es) (env := env) h2
    rw [assignEach_ns h1]
    exact ⟨by rw [List.length_cons, a, List.length_cons], by rw [List.findIdx?_cons, b]; rfl⟩
theorem jgs_nil : JGs Γ W C X [] .nil := by
  refine pgs_imp pgs_nil fun us s H R ⟨v, σ, M, Q, r, sm, ss, hw, kv⟩ => ?_
  cases v with
  | nil => cases r; exact ⟨rfl, kv σ M s H hw sm ss Ste.refl .refl⟩
  | cons a b => exact (show False from hw).elim
theorem jgs_cons {e : Expr} {es : List Expr} {t : Tg} {r : Tgs} (h1 : JG Γ W C X e t) (h2 : JGs Γ W C X es r) (hs : notStar e = true) : JGs Γ W C X (e :: es) (.cons t r) := by
  refine pgs_imp (pgs_cons h1 h2 (by rw [assignEach_ns hs]; rfl)) fun us s H R ⟨v, σ, M, Q, rv, sm, ss, hw, kv⟩ => ?_
  cases v with
  | nil => exact (show False from hw).elim
  | cons a b =>
    cases rv with
    | cons ra rb =>
      refine ⟨_, _, rfl, a, σ, M, fun σ1 M1 => wpGs Γ.G C r b σ1 M1 Q noX, noX, ra, sm, ss, hw, .no, fun σ1 M1 s1 H1 q sm1 ss1 st u1 => ?_⟩
      exact ⟨b, σ1, M1, Q, rb.mono (st.tup sm), sm1, ss1, q, fun σ2 M2 s2 H2 q2 sm2 ss2 st2 u2 => kv σ2 M2 s2 H2 q2 sm2 ss2 (st.trans st2) (u1.trans u2)⟩
theorem jg_tup (g : Gd Γ N ns W k X) {es : List Expr} {n : Nat} {pos : Pos} {r : Tgs} (h : JGs Γ W C X es r) (hs : noStars es = true) (hl : es.length = lenT r) : JG Γ W C X (.Tuple es n pos) (.tup r) := by
  have ha := assignEach_all (es := es) (env := X.env) hs
  refine pg_imp (pg_tup (n := es.length) g.calm h ha.1 ha.2) fun u s H R hl' ⟨v, σ, M, Q, Xk, rv, sm, ss, hw, lk, kv⟩ => ?_
  cases v <;> try exact (show False from hw).elim
  rename_i vs
  cases rv with
  | tup e r' => exact ⟨_, _, rfl, SqT.of e, by rw [← r'.length, hl]; exact hw.1, vs, σ, M, Q, r', sm, ss, hw.2, kv⟩
def notSlice : Expr → Bool
  | .Slice _ _ _ _ => false
  | _ => true
theorem jg_sub (g : Gd Γ N ns W k X) {eo ei : Expr} {pos : Pos} {a b : E} (ho : JE Γ W C X eo a) (hi : JE Γ W C X ei b) (hs : notSlice ei = true) : JG Γ W C X (.Subscript eo ei pos) (.sub a b) := by
  refine pg_imp (pg_sub ho hi (set_all (by have := g.u; omega)) (fun _ => by cases ei <;> first | rfl | cases hs)) fun u s H R hl ⟨v, σ, M, Q, Xk, rv, sm, ss, hw, lk, kv⟩ => ?_
  refine ⟨σ, M, _, Xk, sm, ss, (show wpE Γ.G C a σ M (fun x M1 => wpE Γ.G C b σ M1 (fun y M2 => semSet x y v M2 (fun M3 => Q σ M3)) Xk) Xk from hw), lk, fun x M1 uo H1 q ro sm1 st => ?_⟩
  refine ⟨σ, M1, _, Xk, sm1, ss.mono (st.tup sm), q, lk.step st, fun y M2 ui H2 q2 ri sm2 st2 => ?_⟩
  have s1 := ss.mono (st.tup sm)
  have s2 := s1.mono (st2.tup sm1)
  refine ok_set sm2 (ro.mono (st2.tup sm1)) ri ((rv.mono (st.tup sm)).mono (st2.tup sm1)) q2 fun M' H' q3 sm3 st3 => ?_
  exact kv σ M' s H' q3 sm3 (s2.mono (st3.tup sm2)) ((st.trans st2).trans st3) .refl

/-! ### what is walked -/
def ItOk (Γ : SG) (J : It) (src : Src) (M0 : Mem) (H0 : Hp) : Prop := ∀ i M H, SimM Γ M H → Ste M0 H0 M H → src.ok M →
  (i < src.items.length → J.go i H ∧ ∀ x H', J.yld i H x H' → ∃ v, src.items[i]? = some v ∧ RV Γ H' v x ∧ SimM Γ M H' ∧ Ste M H M H') ∧ (src.items.length ≤ i → J.stop i H)
abbrev WIf := Sg → Mem → (Src → Mem → Prop) → XK → Prop
def TI' (Γ : SG) (W : WX) (w : WIf) : TI := fun s H R => ∃ σ M Q X, SimM Γ M H ∧ SimS Γ H σ s ∧ w σ M Q X ∧ LkE Γ W X M s H ∧ ∀ src M' H' J, Q src M' → SimM Γ M' H' → Ste M H M' H' → ItOk Γ J src M' H' → R J H'
abbrev JI (Γ : SG) (W : WX) (C : Calls) (X : Cx) (tg e : Expr) (it : Itr) : Prop := PI X tg e (TI' Γ W (wpI Γ.G C it))
theorem pi_imp {tg e : Expr} {t t' : TI} (h : PI X tg e t) (k : ∀ s H R, t' s H R → t s H R) : PI X tg e t' := ⟨fun pins s σ H R I q => h.run pins s σ H R I (k _ _ _ q)⟩
/-- a list, a tuple, a text -/
def iAny (K : PySem.W.Frag) (te : TE) : TI := fun σ H R => te σ H fun x H1 => (∃ a, x = .ref a ∧ (∃ xs, SqL K H1 a xs) ∧ R (Itl K a) H1) ∨ (∃ a, x = .ref a ∧ (∃ xs, SqT K H1 a xs) ∧ R (Itt K a) H1) ∨ ∃ z, x = .str z ∧ R (Its z) H1
theorem pi_any {tg e : Expr} {te : TE} (h : PE X e te) : PI X tg e (iAny X.K te) := by
  refine ⟨fun pins s σ H R I hq => ?_⟩
  refine thn (h.run pins s σ H _ I hq) fun v s1 ⟨x, H1, I1, r1, q1⟩ => ?_
  rcases q1 with ⟨a, rfl, ⟨xs, hq⟩, q⟩ | ⟨a, rfl, ⟨xs, hq⟩, q⟩ | ⟨z, rfl, q⟩
  · cases r1
    obtain ⟨its, rv, p, hz⟩ := I1.list hq
    refine wpAny_pyIter_list p.isList ?_
    refine ⟨s1.heap.objs.size, [s1.heap.objs.size], _, _, H1, rfl, I1.kept (t' := s1.toks) fun b o e => Heap.get?_push_of_some _ e, turn_list a _, ⟨_, Heap.get?_push_size _ rfl, rfl, rfl⟩, fun b hb => ?_, q⟩
    have e : b = s1.heap.objs.size := by simpa using hb
    subst e
    exact I1.fpOk (Nat.le_refl _) (I1.hok.fresh (Nat.le_refl _))
  · cases r1
    obtain ⟨its, rv, p, hz⟩ := I1.tuple hq
    refine wpAny_pyIter_tuple (show s1.heap.IsTuple a its.toArray from p) ?_
    refine ⟨s1.heap.objs.size, [s1.heap.objs.size], _, _, H1, rfl, I1.kept (t' := s1.toks) fun b o e => Heap.get?_push_of_some _ e, turn_tuple a _, ⟨_, Heap.get?_push_size _ rfl, rfl, rfl⟩, fun b hb => ?_, q⟩
    have e : b = s1.heap.objs.size := by simpa using hb
    subst e
    exact I1.fpOk (Nat.le_refl _) (I1.hok.fresh (Nat.le_refl _))
  · obtain ⟨t, rfl⟩ := r1
    cases ha : z.cps.all (· < 128)
    · exact wpAny_pyIter_wide ha (pi_one (tk := s1.toks) I1 _ (turn_str _ z t "str_iterator" (.inr rfl)) ⟨_, Heap.get?_push_size _ rfl, rfl, rfl⟩ q)
    · exact wpAny_pyIter_ascii ha (pi_one (tk := s1.toks) I1 _ (turn_str _ z t "str_ascii_iterator" (.inl rfl)) ⟨_, Heap.get?_push_size _ rfl, rfl, rfl⟩ q)
theorem itok_list {a : Addr} {xs : List Val} {M0 : Mem} {H0 : Hp} : ItOk Γ (Itl Γ.K a) ⟨fun M' => M' a = some (.lst xs), xs⟩ M0 H0 := fun i M H sm st hok => by
  obtain ⟨ys, e, r⟩ := sm.lst hok
  refine ⟨fun hi => ?_, fun hi => ⟨ys, SqL.of e, by rw [← r.length]; exact hi⟩⟩
  obtain ⟨v, hv⟩ : ∃ v, xs[i]? = some v := ⟨_, List.getElem?_eq_getElem hi⟩
  obtain ⟨u, h1, h2⟩ := r.get hv
  refine ⟨⟨ys, u, SqL.of e, h1⟩, fun x H' ⟨e1, e2⟩ => ?_⟩
  subst e1
  have := e2 ys (SqL.of e)
  rw [h1] at this
  cases this
  exact ⟨v, hv, h2, sm, .refl⟩
theorem itok_tup {a : Addr} {xs : List Val} {ys : List HV} {M0 : Mem} {H0 : Hp} (sm0 : SimM Γ M0 H0) (e : H0 a = some (.tup ys)) (r : RVs Γ H0 xs ys) : ItOk Γ (Itt Γ.K a) ⟨fun _ => True, xs⟩ M0 H0 := fun i M H sm st hok => by
  have e := st.tup sm0 _ _ e
  have r := r.mono (st.tup sm0)
  refine ⟨fun hi => ?_, fun hi => ⟨ys, SqT.of e, by rw [← r.length]; exact hi⟩⟩
  obtain ⟨v, hv⟩ : ∃ v, xs[i]? = some v := ⟨_, List.getElem?_eq_getElem hi⟩
  obtain ⟨u, h1, h2⟩ := r.get hv
  refine ⟨⟨ys, u, SqT.of e, h1⟩, fun x H' ⟨e1, e2⟩ => ?_⟩
  subst e1
  have := e2 ys (SqT.of e)
  rw [h1] at this
  cases this
  exact ⟨v, hv, h2, sm, .refl⟩
theorem itok_str {z : Str} {M0 : Mem} {H0 : Hp} : ItOk Γ (Its z) ⟨fun _ => True, z.cps.toList.map fun c => .str ⟨#[c]⟩⟩ M0 H0 := fun i M H sm st hok => by
  refine ⟨fun hi => ?_, fun hi => ?_⟩
  · have hi' : i < z.cps.size := by simpa using hi
    refine ⟨hi', fun x H' ⟨e1, c, e2, e3⟩ => ?_⟩
    subst e1 e3
    refine ⟨.str ⟨#[c]⟩, ?_, .str _, sm, .refl⟩
    have : z.cps.toList[i]? = some c := by simpa using e2
    simp [List.getElem?_map, this]
  · show z.cps.size ≤ i
    simpa using hi
theorem ji_any (g : Gd Γ N ns W k X) {tg e : Expr} {a : E} (h : JE Γ W C X e a) : JI Γ W C X tg e (.each a) := by
  refine pi_imp (pi_any h) fun s H R ⟨σ, M, Q, Xk, sm, ss, hw, lk, kv⟩ => ?_
  unfold iAny
  rw [g.hK]
  refine ⟨σ, M, _, Xk, sm, ss, (show wpE Γ.G C a σ M (fun v M1 => semEach v M1 Q) Xk from hw), lk, fun v M1 u H1 q rv sm1 st => ?_⟩
  cases v <;> try exact (show False from q).elim
  · cases rv
    exact .inr (.inr ⟨_, rfl, kv _ M1 H1 _ q sm1 st itok_str⟩)
  · cases rv with
    | tup e r => exact .inr (.inl ⟨_, rfl, ⟨_, SqT.of e⟩, kv _ M1 H1 _ q sm1 st (itok_tup sm1 e r)⟩)
  · rename_i b
    cases rv
    replace q : (match M1 b with | some (.lst xs) => Q ⟨fun M' => M' b = some (.lst xs), xs⟩ M1 | _ => False) := q
    cases eb : M1 b with
    | none => simp only [eb] at q
    | some o =>
      simp only [eb] at q
      cases o <;> try exact (show False from q).elim
      obtain ⟨ys, e1, r1⟩ := sm1.lst eb
      exact .inl ⟨_, rfl, ⟨_, SqL.of e1⟩, kv _ M1 H1 _ q sm1 st itok_list⟩
theorem itok_rng {lo : Int} {n : Nat} {M0 : Mem} {H0 : Hp} : ItOk Γ (L2.Itr lo n) ⟨fun _ => True, rngI lo n⟩ M0 H0 := fun i M H sm st hok => by
  have hl : (rngI lo n).length = n := by simp [rngI]
  refine ⟨fun hi => ?_, fun hi => ?_⟩
  · have hi' : i < n := by simpa [hl] using hi
    refine ⟨hi', fun x H' ⟨e1, e2⟩ => ?_⟩
    subst e1 e2
    exact ⟨.int (lo + i), by simp [rngI, List.getElem?_map, List.getElem?_range hi'], .int _, sm, .refl⟩
  · show n ≤ i
    simpa [hl] using hi
theorem ji_rng1 (g : Gd Γ N ns W k X) {tg e : Expr} {a : E} {p pos : Pos} (hx : ns.lookup ("range" : Str) = some .globalImplicit) (hm : Γ.mg ("range" : Str) = none) (h : JE Γ W C X e a) (hs : notStar e = true) : JI Γ W C X tg (.Call (.Name "range" p) [e] [] pos) (.rng1 a) := by
  refine pi_imp (pi_range1 (gl_of g hx) (by rw [g.hmg]; exact hm) (ja_cons h ja_nil hs) (starEach_ns hs)) fun s H R ⟨σ, M, Q, Xk, sm, ss, hw, lk, kv⟩ => ?_
  refine ⟨σ, M, fun vs M1 => ∃ v, vs = [v] ∧ semR1 v M1 Q, Xk, sm, ss, ?_, lk, fun vs M1 us H1 ⟨v, e, q⟩ rv sm1 st => ?_⟩
  · show wpE Γ.G C a σ M (fun v M1 => ∃ w, [v] = [w] ∧ semR1 w M1 Q) Xk
    have e : (fun (x : Val) (M1 : Mem) => ∃ y, [x] = [y] ∧ semR1 y M1 Q) = fun x M1 => semR1 x M1 Q := by
      funext x M1
      exact propext ⟨fun ⟨y, e, q⟩ => by cases e; exact q, fun q => ⟨x, rfl, q⟩⟩
    rw [e]
    exact hw
  · subst e
    obtain ⟨u, rfl, r1⟩ := rv.one
    cases v <;> try exact (show False from q).elim
    cases r1
    exact ⟨_, rfl, q.1.1, q.1.2, kv _ M1 H1 _ q.2 sm1 st itok_rng⟩
theorem ji_rng2 (g : Gd Γ N ns W k X) {tg e e2 : Expr} {a b : E} {p pos : Pos} (hx : ns.lookup ("range" : Str) = some .globalImplicit) (hm : Γ.mg ("range" : Str) = none) (h : JE Γ W C X e a) (h2 : JE Γ W C X e2 b) (hs : notStar e = true) (hs2 : notStar e2 = true) : JI Γ W C X tg (.Call (.Name "range" p) [e, e2] [] pos) (.rng2 a b) := by
  refine pi_imp (pi_range2 (gl_of g hx) (by rw [g.hmg]; exact hm) (ja_cons h (ja_cons h2 ja_nil hs2) hs) (by rw [starEach_ns hs, starEach_ns hs2]; rfl) (by rw [starEach_ns hs2]; rfl)) fun s H R ⟨σ, M, Q, Xk, sm, ss, hw, lk, kv⟩ => ?_
  refine ⟨σ, M, fun vs M1 => ∃ v w, vs = [v, w] ∧ semR2 v w M1 Q, Xk, sm, ss, ?_, lk, fun vs M1 us H1 ⟨v, v2, e, q⟩ rv sm1 st => ?_⟩
  · show wpE Γ.G C a σ M (fun v M1 => wpE Γ.G C b σ M1 (fun u M2 => ∃ w w2, [v, u] = [w, w2] ∧ semR2 w w2 M2 Q) Xk) Xk
    have e : ∀ v, (fun (x : Val) (M1 : Mem) => ∃ w w2, [v, x] = [w, w2] ∧ semR2 w w2 M1 Q) = fun x M1 => semR2 v x M1 Q := by
      intro v
      funext x M1
      exact propext ⟨fun ⟨y, z, e, q⟩ => by cases e; exact q, fun q => ⟨v, x, rfl, q⟩⟩
    simp only [e]
    exact hw
  · subst e
    cases rv with
    | cons r1 rr =>
      cases rr with
      | cons r2 rr =>
        cases rr
        cases v <;> cases v2 <;> try exact (show False from q).elim
        cases r1; cases r2
        exact ⟨_, _, rfl, ⟨q.1.1, q.1.2, q.2.1.1, q.2.1.2⟩, kv _ M1 H1 _ q.2.2 sm1 st itok_rng⟩
theorem enumI_get : ∀ {xs : List Val} {n i : Nat}, (enumI n xs)[i]? = (xs[i]?).map fun x => Val.tup [.int ((n + i : Nat) : Int), x]
  | [], n, i => by simp [enumI]
  | x :: r, n, 0 => by simp [enumI]
  | x :: r, n, i + 1 => by
    simp only [enumI, List.getElem?_cons_succ]
    rw [enumI_get (xs := r)]
    have : n + 1 + i = n + (i + 1) := by omega
    rw [this]
theorem enumI_length : ∀ {xs : List Val} {n : Nat}, (enumI n xs).length = xs.length
  | [], _ => rfl
  | _ :: r, n => by simp [enumI, enumI_length (xs := r)]
theorem itok_enum {a : Addr} {xs : List Val} {M0 : Mem} {H0 : Hp} : ItOk Γ (Ite Γ.K a) ⟨fun M' => M' a = some (.lst xs), enumI 0 xs⟩ M0 H0 := fun i M H sm st hok => by
  obtain ⟨ys, e, r⟩ := sm.lst hok
  refine ⟨fun hi => ?_, fun hi => ⟨ys, SqL.of e, by rw [← r.length]; simpa [enumI_length] using hi⟩⟩
  have hi' : i < xs.length := by simpa [enumI_length] using hi
  obtain ⟨v, hv⟩ : ∃ v, xs[i]? = some v := ⟨_, List.getElem?_eq_getElem hi'⟩
  obtain ⟨u, h1, h2⟩ := r.get hv
  refine ⟨⟨ys, u, SqL.of e, h1⟩, fun x H' ⟨T, y, e1, e2, e3, e4⟩ => ?_⟩
  subst e1 e3
  have := e4 ys (SqL.of e)
  rw [h1] at this
  cases this
  have tt := (ste_side (M := M) (o := HO.tup [L2.V.int (i : Nat), u]) e2).tup sm
  exact ⟨.tup [.int (i : Nat), v], by show (enumI 0 xs)[i]? = _; rw [enumI_get, hv]; simp, .tup upd_same (.cons (.int _) (.cons (h2.mono tt) .nil)), sim_side sm e2, ste_side e2⟩
theorem ji_enum (g : Gd Γ N ns W k X) {elts : List Expr} {kk : Nat} {tpos : Pos} {e : Expr} {a : E} {p pos : Pos} (hx : ns.lookup ("enumerate" : Str) = some .globalImplicit) (hm : Γ.mg ("enumerate" : Str) = none) (h : JE Γ W C X e a) (hs : notStar e = true) : JI Γ W C X (.Tuple elts kk tpos) (.Call (.Name "enumerate" p) [e] [] pos) (.enum a) := by
  refine pi_imp (pi_enum (gl_of g hx) (by rw [g.hmg]; exact hm) (ja_cons h ja_nil hs) (starEach_ns hs)) fun s H R ⟨σ, M, Q, Xk, sm, ss, hw, lk, kv⟩ => ?_
  unfold iEnum
  rw [g.hK]
  refine ⟨σ, M, fun vs M1 => ∃ v, vs = [v] ∧ semEnum v M1 Q, Xk, sm, ss, ?_, lk, fun vs M1 us H1 ⟨v, e, q⟩ rv sm1 st => ?_⟩
  · show wpE Γ.G C a σ M (fun v M1 => ∃ w, [v] = [w] ∧ semEnum w M1 Q) Xk
    have e : (fun (x : Val) (M1 : Mem) => ∃ y, [x] = [y] ∧ semEnum y M1 Q) = fun x M1 => semEnum x M1 Q := by
      funext x M1
      exact propext ⟨fun ⟨y, e, q⟩ => by cases e; exact q, fun q => ⟨x, rfl, q⟩⟩
    rw [e]
    exact hw
  · subst e
    obtain ⟨u, rfl, r1⟩ := rv.one
    cases v <;> try exact (show False from q).elim
    rename_i b _
    cases r1
    replace q : (match M1 b with | some (.lst xs) => Q ⟨fun M' => M' b = some (.lst xs), enumI 0 xs⟩ M1 | _ => False) := q
    cases eb : M1 b with
    | none => simp only [eb] at q
    | some o =>
      simp only [eb] at q
      cases o <;> try exact (show False from q).elim
      obtain ⟨ys, e1, r1⟩ := sm1.lst eb
      exact ⟨b, ys, rfl, SqL.of e1, kv _ M1 H1 _ q sm1 st itok_enum⟩
end
end MP
/-! Comprehensions. -/
namespace MP
open PySem L2
open PySem.Spec PyProof.Rows
section
variable {Γ : SG} {W : WX} {N : List Str} {ns : List (Str × NameKind)} {k : Nat} {X : Cx} {C : Calls} {M M' M1 : Mem} {H H' H1 : Hp}
/-- the script does not stand at D -/
def Off (Γ : SG) (D : Addr) : Prop := D ≠ Γ.sAd ∨ KSeq Γ
theorem SimM.off (s : SimM Γ M H) {D : Addr} (h : H D = none) : Off Γ D := by
  rcases s.scr with ⟨_, h' | ⟨o, h'⟩⟩ | h'
  · exact .inl fun z => by rw [← z, h] at h'; cases h'
  · exact .inl fun z => by rw [← z, h] at h'; cases h'
  · exact .inr h'
theorem sim_alter {D : Addr} {xs ys : List HV} (s : SimM Γ M H) (off : Off Γ D) (m : M D = none) (h : H D = some (.lst xs)) : SimM Γ M (upd H D (.lst ys)) where
  scr := by
    rcases off with off | ks
    · rcases s.scr with ⟨a, h' | ⟨o, h'⟩⟩ | h'
      · exact .inl ⟨a, .inl (by rw [upd_ne (Ne.symm off)]; exact h')⟩
      · exact .inl ⟨a, .inr ⟨o, by rw [upd_ne (Ne.symm off)]; exact h'⟩⟩
      · exact .inr h'
    · exact .inr ks
  ob := fun a o e => by
    have na : a ≠ D := fun z => by rw [z, m] at e; cases e
    have tp : ∀ a ys', H a = some (.tup ys') → upd H D (.lst ys) a = some (.tup ys') := fun a ys' q => by rw [upd_ne (ne_of q h (by intro z; cases z))]; exact q
    have z := s.ob a o e
    cases o with
    | lst zs => obtain ⟨w, q, r⟩ := z; exact ⟨w, by rw [upd_ne na]; exact q, r.mono tp⟩
    | dct zs => obtain ⟨w, q, r⟩ := z; exact ⟨w, by rw [upd_ne na]; exact q, r.mono tp⟩
    | exc c fs =>
      obtain ⟨d, q, r, ck⟩ := z
      refine ⟨d, by rw [upd_ne na]; exact q, ?_, ck⟩
      rcases r with r | ⟨dd, fs', e1, e2, e3, e4⟩
      · exact .inl r
      · exact .inr ⟨dd, fs', e1, by rw [upd_ne (ne_of e2 h (by intro z; cases z))]; exact e2, e3, e4.mono tp⟩
theorem sim_adopt {D : Addr} {xs : List Val} {ys : List HV} (s : SimM Γ M H) (off : Off Γ D) (m : M D = none) (h : H D = some (.lst ys)) (r : RVs Γ H xs ys) : SimM Γ (mup M D (.lst xs)) H where
  scr := by
    rcases off with off | ks
    · rcases s.scr with ⟨a, h'⟩ | h'
      · exact .inl ⟨by rw [mup_ne (Ne.symm off)]; exact a, h'⟩
      · exact .inr h'
    · exact .inr ks
  ob := fun a o e => by
    by_cases na : a = D
    · subst na; rw [mup_same] at e; cases e; exact ⟨ys, h, r⟩
    · rw [mup_ne na] at e
      have z := s.ob a o e
      cases o with
      | lst zs => exact z
      | dct zs => exact z
      | exc c fs =>
        obtain ⟨d, q, r, ck⟩ := z
        refine ⟨d, q, ?_, ck⟩
        rcases r with r | ⟨dd, fs', e1, e2, e3, e4⟩
        · exact .inl r
        · exact .inr ⟨dd, fs', e1, e2, by rw [mup_ne (ne_of e2 h (by intro z; cases z))]; exact e3, e4⟩
theorem ste_alter {D : Addr} {o : HO} (st : Ste M1 H1 M H) (h : H1 D = none) : Ste M1 H1 M (upd H D o) := fun a u n e => by
  obtain ⟨x, y⟩ := st a u n e
  exact ⟨x, by rw [upd_ne (ne_of_none e h)]; exact y⟩
theorem ste_adopt {D : Addr} {o : MO} (st : Ste M1 H1 M H) (h : H1 D = none) : Ste M1 H1 (mup M D o) H := fun a u n e => by
  obtain ⟨x, y⟩ := st a u n e
  exact ⟨by rw [mup_ne (ne_of_none e h)]; exact x, y⟩
/-- no exception is let out -/
abbrev W0 : WX := fun _ _ _ _ => False
def notSet : Expr → Bool
  | .Set _ _ _ => false
  | _ => true
theorem notSet_eq {e : Expr} (h : notSet e = true) {env : Env} : ∀ x, foldedSetIterable e env x = pure x := fun x => by
  cases e <;> first | rfl | cases h
theorem notSet_mark {op : CmpOp} {e : Expr} (h : notSet e = true) : behindInMarks op e = false := by
  cases e <;> first | rfl | cases h
theorem wipe_self {s : L2.St} {own : List Nat} : Upd own s (wipe s own) := ⟨wipe_length _ _, fun i h => wipe_out h⟩
def stepC (G : Glo) (C : Calls) (elt : E) (own : List Nat) (g : Tg) (ifs : Es) (σ : Sg) : Val → (List Val → Mem → Prop) → List Val → Mem → Prop := fun x k acc M2 => wpG G C g x (wipes σ own) M2 (fun σ3 M3 =>
      wpEs G C ifs σ3 M3 (fun bs M4 => (match bs with
        | [] => wpE G C elt σ3 M4 (fun y M5 => acc.length < sizeLine ∧ k (acc ++ [y]) M5) noX
        | [b] => (match truthB G M4 b with | some true => wpE G C elt σ3 M4 (fun y M5 => acc.length < sizeLine ∧ k (acc ++ [y]) M5) noX | some false => k acc M4 | Option.none => False)
        | _ => False)) noX) noX
/-- the test of a comprehension: none, or one -/
def TIf (Γ : SG) (C : Calls) : Es → TT
  | .nil => tYes
  | .cons b .nil => TT' Γ W0 (wpE Γ.G C b)
  | _ => fun _ _ _ => False
theorem if_ok {ifs : Es} {σ : Sg} {s : L2.St} {Q : Bool → Mem → Prop} {R : Bool → Hp → Prop} (sm : SimM Γ M H) (ss : SimS Γ H σ s)
    (h : wpEs Γ.G C ifs σ M (fun bs M4 => (match bs with | [] => Q true M4 | [b] => (match truthB Γ.G M4 b with | some c => Q c M4 | none => False) | _ => False)) noX)
    (hi : ifs = .nil ∨ ∃ b, ifs = .cons b .nil) (kk : ∀ c M' H', Q c M' → SimM Γ M' H' → Ste M H M' H' → R c H') : TIf Γ C ifs s H R := by
  rcases hi with e | ⟨b, e⟩
  · subst e; exact kk true M H h sm .refl
  · subst e
    refine ⟨σ, M, _, noX, sm, ss, (show wpE Γ.G C b σ M (fun x M1 => match truthB Γ.G M1 x with | some c => Q c M1 | none => False) noX from h), .no, fun v M' H' q sm' st => ?_⟩
    cases e : truthB Γ.G M' v with
    | none => simp only [e] at q
    | some c => simp only [e] at q; exact ⟨c, rfl, kk c M' H' q sm' st⟩
theorem tlc_ok {elt : E} {own : List Nat} {gt : Tg} {it : Itr} {ifs : Es} {s : L2.St} {R : L2.VK} (hids : ∀ i ∈ idsG gt, i ∈ own) (hif : ifs = .nil ∨ ∃ b, ifs = .cons b .nil)
    (h : TE' Γ W (wpE Γ.G C (.comp elt own gt it ifs)) s H R) : tLc (TI' Γ W (wpI Γ.G C it)) (TG' Γ W0 (idsG gt) (wpG Γ.G C gt)) (TIf Γ C ifs) (TE' Γ W0 (wpE Γ.G C elt)) own s H R := by
  obtain ⟨σ, M0, Q, Xk, sm0, ss0, hw, lk, kv⟩ := h
  refine ⟨σ, M0, _, Xk, sm0, ss0, (show wpI Γ.G C it σ M0 (fun src M1 => compItems (stepC Γ.G C elt own gt ifs σ) src.ok (fun acc M' => newL acc M' Q) src.items [] M1) Xk from hw), lk, fun src M1 H1 J q0 sm1 st1 iok => ?_⟩
  intro D hD
  have off := sm1.off hD
  refine ⟨fun i m H => m = src.items.length - i ∧ ∃ M acc accV, SimM Γ M H ∧ SimS Γ H σ s ∧ M D = none ∧ H D = some (.lst accV) ∧ RVs Γ H acc accV ∧ Ste M1 H1 M H ∧ compItems (stepC Γ.G C elt own gt ifs σ) src.ok (fun acc M' => newL acc M' Q) (src.items.drop i) acc M, ?_, ?_⟩
  · exact ⟨_, rfl, M1, [], [], sim_side sm1 hD, (ss0.mono (st1.tup sm0)).mono ((ste_side hD).tup sm1), sm1.fresh hD, upd_same, .nil, ste_side hD, q0⟩
  rintro i m H ⟨rfl, M, acc, accV, sm, ss, mD, hDv, ra, st, q⟩
  by_cases hlt : i < src.items.length
  · obtain ⟨x, hx⟩ : ∃ x, src.items[i]? = some x := ⟨_, List.getElem?_eq_getElem hlt⟩
    have hdrop : src.items.drop i = x :: src.items.drop (i + 1) := by
      rw [List.drop_eq_getElem_cons hlt]
      rw [List.getElem?_eq_getElem hlt] at hx
      cases hx
      rfl
    rw [hdrop] at q
    obtain ⟨hok, q⟩ := q
    obtain ⟨go, yl⟩ := (iok i M H sm st hok).1 hlt
    refine .inr ⟨go, fun H' => ∃ m', m' < src.items.length - i ∧ (m' = src.items.length - (i + 1) ∧ ∃ M acc accV, SimM Γ M H' ∧ SimS Γ H' σ s ∧ M D = none ∧ H' D = some (.lst accV) ∧ RVs Γ H' acc accV ∧ Ste M1 H1 M H' ∧ compItems (stepC Γ.G C elt own gt ifs σ) src.ok (fun acc M' => newL acc M' Q) (src.items.drop (i + 1)) acc M), fun H' z => z, fun x' H' y => ?_⟩
    obtain ⟨v, hv, rv, sm2, st2⟩ := yl x' H' y
    rw [hx] at hv
    cases hv
    have ss2 := ss.mono (st2.tup sm)
    obtain ⟨_, hDv2⟩ := st2 D _ mD hDv
    have ra2 := ra.mono (st2.tup sm)
    refine ⟨x, wipes σ own, M, _, noX, rv, sm2, sims_wipe ss2 own, q, .no, fun σ3 M3 s3 H3 q3 sm3 ss3 st3 u3 => ?_⟩
    have wq : wipe s3 own = wipe s own := (wipe_upd u3 hids).trans (wipe_upd wipe_self fun i h => h)
    refine ⟨wq, ?_⟩
    obtain ⟨mD3, hDv3⟩ := st3 D _ mD hDv2
    have ra3 := ra2.mono (st3.tup sm2)
    have ss3' := ss2.mono (st3.tup sm2)
    have ste3 : Ste M1 H1 M3 H3 := (st.trans st2).trans st3
    -- the element, then the next turn
    have fin : ∀ M4 H4, wpE Γ.G C elt σ3 M4 (fun y M5 => acc.length < sizeLine ∧ compItems (stepC Γ.G C elt own gt ifs σ) src.ok (fun acc M' => newL acc M' Q) (src.items.drop (i + 1)) (acc ++ [y]) M5) noX → SimM Γ M4 H4 → Ste M3 H3 M4 H4 →
        TE' Γ W0 (wpE Γ.G C elt) s3 H4 (fun y H4 => ∃ acc, H4 D = some (.lst acc) ∧ acc.length < sizeLine ∧ ∃ m', m' < src.items.length - i ∧ (m' = src.items.length - (i + 1) ∧ ∃ M acc_1 accV, SimM Γ M (upd H4 D (.lst (acc ++ [y]))) ∧ SimS Γ (upd H4 D (.lst (acc ++ [y]))) σ s ∧ M D = none ∧ (upd H4 D (.lst (acc ++ [y]))) D = some (.lst accV) ∧ RVs Γ (upd H4 D (.lst (acc ++ [y]))) acc_1 accV ∧ Ste M1 H1 M (upd H4 D (.lst (acc ++ [y]))) ∧ compItems (stepC Γ.G C elt own gt ifs σ) src.ok (fun acc M' => newL acc M' Q) (src.items.drop (i + 1)) acc_1 M)) := fun M4 H4 q4 sm4 st4 => by
      refine ⟨σ3, M4, _, noX, sm4, ss3.mono (st4.tup sm3), q4, .no, fun y M5 u H5 ⟨hl, q5⟩ ry sm5 st5 => ?_⟩
      obtain ⟨mD4, hDv4⟩ := st4 D _ mD3 hDv3
      obtain ⟨mD5, hDv5⟩ := st5 D _ mD4 hDv4
      have ra5 := (ra3.mono (st4.tup sm3)).mono (st5.tup sm4)
      have tp : ∀ a ys', H5 a = some (.tup ys') → upd H5 D (.lst (accV ++ [u])) a = some (.tup ys') := fun a ys' q => by rw [upd_ne (ne_of q hDv5 (by intro z; cases z))]; exact q
      refine ⟨accV, hDv5, by rw [← ra5.length]; exact hl, _, by omega, rfl, M5, acc ++ [y], accV ++ [u], sim_alter sm5 off mD5 hDv5, ((ss3'.mono (st4.tup sm3)).mono (st5.tup sm4)).mono tp, mD5, upd_same, (ra5.append (.cons ry .nil)).mono tp, ste_alter ((ste3.trans st4).trans st5) hD, q5⟩
    refine if_ok (C := C) (ifs := ifs) (Q := fun c M4 => if c = true then wpE Γ.G C elt σ3 M4 (fun y M5 => acc.length < sizeLine ∧ compItems (stepC Γ.G C elt own gt ifs σ) src.ok (fun acc M' => newL acc M' Q) (src.items.drop (i + 1)) (acc ++ [y]) M5) noX else compItems (stepC Γ.G C elt own gt ifs σ) src.ok (fun acc M' => newL acc M' Q) (src.items.drop (i + 1)) acc M4) sm3 ss3 ?_ hif fun c M4 H4 q4 sm4 st4 => ?_
    · refine (congrArg (fun z => wpEs Γ.G C ifs σ3 M3 z noX) ?_).mp q3
      funext bs M4
      cases bs with
      | nil => simp
      | cons b r =>
        cases r with
        | nil =>
          simp only
          cases truthB Γ.G M4 b with
          | none => rfl
          | some c => cases c <;> simp
        | cons _ _ => rfl
    · cases c with
      | true => rw [if_pos rfl] at q4 ⊢; exact fin M4 H4 q4 sm4 st4
      | false =>
        rw [if_neg Bool.false_ne_true] at q4 ⊢
        obtain ⟨mD4, hDv4⟩ := st4 D _ mD3 hDv3
        exact ⟨_, by omega, rfl, M4, acc, accV, sm4, ss3'.mono (st4.tup sm3), mD4, hDv4, ra3.mono (st4.tup sm3), ste3.trans st4, q4⟩
  · have hdrop : src.items.drop i = [] := List.drop_eq_nil_of_le (by omega)
    rw [hdrop] at q
    obtain ⟨hok, q⟩ := q
    refine .inl ⟨(iok i M H sm st hok).2 (by omega), ?_⟩
    exact kv _ _ _ H (q D mD) (.ref D) (sim_adopt sm off mD hDv ra) (st1.trans (ste_adopt st hD))
theorem pts_of {ifs : List Expr} {r : Es} (h : (ifs = [] ∧ r = .nil) ∨ ∃ c b, ifs = [c] ∧ r = .cons b .nil ∧ PT X c (TT' Γ W0 (wpE Γ.G C b))) : PTs X ifs (TIf Γ C r) := by
  rcases h with ⟨e1, e2⟩ | ⟨c, b, e1, e2, h⟩
  · subst e1 e2; exact pts_nil
  · subst e1 e2; exact pts_one h
end
end MP
/-! Calls of the text's own defs; exceptions made and raised. -/
namespace MP
open PySem L2
open PySem.Spec PyProof.Rows
section
variable {Γ : SG} {W : WX} {N : List Str} {ns : List (Str × NameKind)} {k : Nat} {X : Cx} {C : Calls} {M M' M1 : Mem} {H H' H1 : Hp}
/-- the promise of the def f at what C tells of it -/
def spOf (Γ : SG) (C : Calls) (f : Nat) : Sp := fun vs H Q E => ∃ args M Qm Xm, SimM Γ M H ∧ RVs Γ H args vs ∧ C f args M Qm Xm ∧ kV Γ M H Qm Q ∧
  ∀ e M' H' cls d, Xm e M' → SimM Γ M' H' → Ste M H M' H' → RX Γ e cls d M' H' → E cls d H'
/-- a def's promise where no repr is under way -/
structure FnG (P : Program) (w : World) (K : PySem.W.Frag) (mg : Str → Option Value) (base : Heap) (k : Nat) (f : Addr) (fd : FuncData) (ps : List Str) (sp : Sp) : Prop where
  len : ∀ vs H Q E, sp vs H Q E → vs.length = ps.length
  go : ∀ (A : Around) (outer : List Env) (s : Shared) (H : Hp) (us : List Value) (vs : List HV) (Q : L2.VK) (E : L2.XK), A.guards = some [] → Room k A → Env0 P w K mg base A outer s H → BindsTo s fd ⟨us, []⟩ (ps.zip us) → Vals vs us → sp vs H Q E →
    codeAny (model P w) A (.call (.ref f) ⟨us, []⟩) (CR (L2.CX P w) outer P w H s Q E) s
theorem FnG.mono {P : Program} {w : World} {K : PySem.W.Frag} {mg : Str → Option Value} {base : Heap} {j k : Nat} {f : Addr} {fd : FuncData} {ps : List Str} {sp : Sp} (F : FnG P w K mg base j f fd ps sp) (h : j ≤ k) : FnG P w K mg base k f fd ps sp :=
  ⟨F.len, fun A outer s H us vs Q E g r => F.go A outer s H us vs Q E g (r.mono h)⟩
/-- a call's end, where one stands -/
theorem cr_end {pins : List (Addr × Obj)} {σ : L2.St} {H : Hp} {s : Shared} {Q : L2.VK} {u : WX} (tk : Takes X u) (I : L2.Inv X pins σ H s) : ∀ r s', CR (L2.CX X.prog X.w) X.stack X.prog X.w H s Q (fun cls d H => u cls d σ H) r s' →
    (match r with | .ok (.ret v) => EP X pins σ Q v s' | .ok _ => False | .error e => X.xe e s')
  | .ok (.ret v), s', h => I.after h
  | .ok .next, _, h => h
  | .ok .brk, _, h => h
  | .ok .cont, _, h => h
  | .error e, s', h => passAt tk σ pins H s e s' I h
theorem pe_callG {f : Addr} {fd : FuncData} {ps : List Str} {sp : Sp} {x : Str} {e : Expr} {es : List Expr} {t : TA} {p pos : Pos} (F : FnG X.prog X.w X.K X.mg X.base k f fd ps sp) (gA : X.A.guards = some []) (hr : Room k X.A) (hg : Gl X x) (hm : X.mg x = some (.ref f)) (hk : PySem.W.keepIn X.K (.ref f) = true)
    (hb : Binds X.K fd ps []) (tk : Takes X W) (ha : PA X (e :: es) t) (hd : (x == ("__debug__" : Str)) = false) (he : starEach (e :: es) X.env = (false, eval e X.env) :: starEach es X.env) (hpl : (backTo pos (starEach es X.env)).any (·.1) = false) :
    PE X (.Call (.Name x p) (e :: es) [] pos) (tCallS sp (fun σ cls d H => W cls d σ H) t) := by
  constructor
  intro pins s σ H Q I h
  have run : ∀ us s1, AP X pins σ (fun vs H1 => sp vs H1 Q (fun cls d H => W cls d σ H)) us s1 → X.K.In s1.heap ∧ wpAny (model X.prog X.w) X.A (call (.ref f) us) (EP X pins σ Q) X.xe s1 := by
    rintro us s1 ⟨vs, H1, I1, r, q⟩
    refine ⟨I1.kIn, ?_⟩
    have hl : us.length = ps.length := by rw [← r.length]; exact F.len _ _ _ _ q
    have b := hb s1 us I1.kIn (by rw [List.append_nil]; exact hl)
    rw [List.append_nil] at b
    refine wpAny_call (codeAny_mono (F.go X.A X.stack s1 H1 us vs Q _ gA hr I1.env0 b r q) fun r s' hq => ?_)
    have z := cr_end tk I1 r s' hq
    cases r with
    | error e => exact z
    | ok fl => cases fl <;> first | exact z | exact z.elim
  refine wpAny_Call_Name_kw (ld_glob I hg hm ?_ hd)
  exact PySem.W.callWith_K (h₀ := X.base) I.ok.mod.kin hk (thn (ha.run pos pins s σ H _ I h) run) he hpl
/-- what is known of the def f, named x -/
structure FT (Γ : SG) (C : Calls) (k : Nat) (f : Nat) (x : Str) : Prop where
  ok : ∃ (a : Addr) (fd : FuncData) (ps : List Str), Γ.mg x = some (.ref a) ∧ PySem.W.keepIn Γ.K (.ref a) = true ∧ Binds Γ.K fd ps [] ∧ FnG Γ.P Γ.w Γ.K Γ.mg Γ.base k a fd ps (spOf Γ C f)
theorem je_call (g : Gd Γ N ns W k X) {f : Nat} {x : Str} {e : Expr} {es : List Expr} {as : Es} {p pos : Pos} (F : FT Γ C k f x) (hx : ns.lookup x = some .globalImplicit) (hd : (x == ("__debug__" : Str)) = false) (ha : JA Γ W C X (e :: es) as) (hs : notStar e = true) (hss : noStars es = true) :
    JE Γ W C X (.Call (.Name x p) (e :: es) [] pos) (.call f as) := by
  obtain ⟨a, fd, ps, h1, h2, h3, h4⟩ := F.ok
  rw [← g.hP, ← g.hw, ← g.hK, ← g.hmg, ← g.hbase] at h4
  refine pe_imp (pe_callG h4 g.gA g.room (gl_of g hx) (by rw [g.hmg]; exact h1) (by rw [g.hK]; exact h2) (by rw [g.hK]; exact h3) g.tk ha hd (starEach_ns hs) (starEach_all hss)) fun s H R q => ?_
  refine te_seqs (wa := wpEs Γ.G C as) (k := fun vs σ M1 Q X => C f vs M1 Q X) q fun vs us σ M1 H1 Q Xk sm ss rx q lk kv => ?_
  exact ⟨vs, M1, Q, Xk, sm, rx, q, kv, lk⟩

/-! ### an exception's maker -/
/-- what the written part says of the class TagError, at T -/
structure TagC (K : PySem.W.Frag) (T : Addr) : Prop where
  rd : PySem.W.readsIn K T (.type "type") = true
  ga : PySem.W.specialIn K (.ref T) "__getattribute__" = some (some (.builtin "type.__getattribute__"))
  at_ : PySem.W.findCls K (.ref T) (.type "type") "__init__" = some (.val (.builtin "ValueError.__init__"))
theorem pe_taginit {pl : Sem Bool} {T : Addr} {x : Str} {e : Expr} {es : List Expr} {ta : TA} {p1 p2 pos : Pos} (hg : Gl X x) (hm : X.mg x = some (.ref T)) (t : TagC X.K T) (ha : PA X (e :: es) ta) (hd : (x == ("__debug__" : Str)) = false)
    (hc : eval (.Call (.Attribute (.Name x p1) "__init__" p2) (e :: es) [] pos) X.env = (do
      let ov ← eval (.Name x p1) X.env
      standAt p2.atName
      let (f, first) ← holding [ov] (getMethod ov "__init__" pl)
      callWith pos f first (backTo pos (starEach (e :: es) X.env)) (backToKw pos (keywordEach [] X.env))))
    (he : starEach (e :: es) X.env = (false, eval e X.env) :: starEach es X.env) (hpl : (backTo pos (starEach es X.env)).any (·.1) = false) :
    PE X (.Call (.Attribute (.Name x p1) "__init__" p2) (e :: es) [] pos) (tVeI X.K ta) := by
  refine ⟨fun pins s σ H Q I h => ?_⟩
  refine PySem.W.methodCall_KW (ld_glob I hg hm ?_ hd) hc
  refine PySem.W.method_cls I.kIn t.ga (PySem.W.cls_value I.kIn t.rd t.at_ (by decide +kernel) ?_)
  show wpAny _ _ (callWith pos (Value.builtin "ValueError.__init__") [] (backTo pos (starEach (e :: es) X.env)) []) _ _ _
  refine PyProof.Rows.callWith_method1 (thn (ha.run pos pins _ σ H _ (I.tok _) h) fun us s1 ⟨vs, H1, I1, r1, a, C, ws, ev, hl, T, ea, q⟩ => ?_) he hpl
  subst ev
  cases r1 with
  | @cons _ u0 _ ur ra rw' =>
    obtain rfl : u0 = Value.ref a := ra
    have hlen : ur.length ≤ sizeLine := by
      rw [← Paired.length rw', sizeLine_eq]
      omega
    exact oinit_ok T I1 ea hlen fun s' J => ⟨.non, H1, J, rfl, q⟩
/-- the promise of __init__(self, f): self.f = f -/
def spIni (C : Addr) (f : Str) : Sp := fun vs H Q _ => ∃ (a : Addr) (v : HV), vs = [.ref a, v] ∧ H a = some (exo a C none) ∧ ∀ dx, H dx = none → dx ≠ a → Q .non (upd (upd H dx (exd dx [(f, v)])) a (exo a C (some dx)))
/-- a body of the form TagError.__init__(self, '..'); self.f = f -/
structure IniBody (T f : Str) (b : List Stmt) : Prop where
  ex : ∃ (msg : Str) (p1 p2 p3 p4 p5 p6 p7 p8 p9 p10 : Pos) (j : Nat), b = [.Expr (.Call (.Attribute (.Name T p1) "__init__" p2) [.Name "self" p3, .Constant (.str msg) j p4] [] p5) p6, .Assign [.Attribute (.Name "self" p7) f p8] (.Name f p9) p10] ∧ (p2.endLine == p5.line) = true
def notSup : Expr → Bool
  | .Call (.Name _ _) [] [] _ => false
  | _ => true
theorem attrBase {o : Expr} (h : notSup o = true) {f : Str} {env : Env} {w : Sem Value} : attributeBase o f env w = w := by
  cases o <;> first | rfl | skip
  rename_i fn as ks pos
  cases fn <;> first | rfl | skip
  cases as <;> first | rfl | skip
  cases ks <;> first | rfl | cases h
theorem backTo_all {es : List Expr} {env : Env} {pos : Pos} (h : noStars es = true) : (backTo pos (starEach es env)).all (fun x => !x.1) = true := by
  have := starEach_all (env := env) (pos := pos) h
  rw [List.any_eq_false] at this
  rw [List.all_eq_true]
  intro x hx
  have := this x hx
  cases e : x.1 <;> simp_all
theorem hc_of {o : Expr} {m : Str} {apos pos : Pos} {es : List Expr} {env : Env} (hb : notSup o = true) (hl : (apos.endLine == pos.line) = true) (hs : noStars es = true) (hn : es.length < 30) :
    eval (.Call (.Attribute o m apos) es [] pos) env = (do
      let ov ← eval o env
      standAt apos.atName
      let (f, first) ← holding [ov] (getMethod ov m (plainOf o env))
      callWith pos f first (backTo pos (starEach es env)) (backToKw pos (keywordEach [] env))) := by
  have e : eval (.Call (.Attribute o m apos) es [] pos) env = (do
      let ov ← attributeBase o m env (eval o env)
      standAt apos.atName
      methodCall o m apos pos env ov (es.length + ([] : List Keyword).length) (backTo pos (starEach es env)) (backToKw pos (keywordEach [] env))) := by rw [arm_eval_Call]
  rw [e, attrBase hb]
  have hf : methodCallForm (es.length + ([] : List Keyword).length) (backTo pos (starEach es env)) (backToKw pos (keywordEach [] env)) = true := by
    unfold methodCallForm
    rw [backTo_all hs]
    simp only [List.length_nil, Nat.add_zero]
    have : decide (es.length + (if ([] : List Keyword).isEmpty = true then 0 else 1) < 30) = true := decide_eq_true (by simpa using hn)
    first
      | exact this
      | (simp [keywordEach, backToKw]; omega)
  congr 1
  funext ov
  congr 1
  funext _
  exact mcall_line hf hl
theorem scI_ok {cdv : Value} : True := trivial
/-- the maker of an own exception keeps its promise -/
theorem ok_ini {P : Program} {w : World} {K : PySem.W.Frag} {mg : Str → Option Value} {base : Heap} {T Cc fI : Addr} {fd : FuncData} {st : Stmt} {q f xT : Str} (F : Fun K "__init__" q st fI fd) (S : FnScope ["self", f] ["self", f] (defScope st)) (B : IniBody xT f (defBody st))
    (t : TagC K T) (gT : mg xT = some (.ref T)) (O : OexC K Cc) (nf : PySem.W.findIn K (.ref Cc) f = some none) (hd : (xT == ("__debug__" : Str)) = false) (hfd : (f == ("__debug__" : Str)) = false) (hfc : (f == ("__classdict__" : Str)) = false)
    (hx : (defScope st).names.lookup xT = some .globalImplicit) (hs : (defScope st).names.lookup ("self" : Str) = some .local) (hf : (defScope st).names.lookup f = some .local) : FnOk P w K mg base (L2.CX P w) 1 fI fd ["self", f] (spIni Cc f) := by
  obtain ⟨msg, p1, p2, p3, p4, p5, p6, p7, p8, p9, p10, j, eb, hl⟩ := B.ex
  refine F.okX S (fun vs H Q E ⟨a, v, e, _⟩ => by rw [e]; rfl) fun cdv A outer s H vs Q E hr ⟨a, v, e, ha, hq⟩ => ?_
  rw [eb]
  refine ⟨_, pss_cons (ps_expr (pe_taginit (pl := _) (show Gl _ xT from hx) gT t (pa_cons (pe_var (i := 0) rfl (.inl hs)) (pa_cons pe_str pa_nil)) hd (hc_of rfl hl rfl (by show 2 < 30; decide)) rfl rfl))
    (pss_one (ps_ost (pe_var (i := 0) rfl (.inl hs)) (pe_var (i := 1) rfl (.inl hf) hfd hfc))), ?_⟩
  subst e
  refine ⟨_, rfl, a, Cc, _, rfl, (by show 1 ≤ 1000; decide), O, ha, ?_⟩
  refine ⟨_, rfl, _, rfl, a, Cc, rfl, O, nf, .inl ⟨ha, fun dx hdx ne => hq dx hdx ne⟩⟩
end
end MP
/-! Statements. -/
namespace MP
open PySem L2
open PySem.Spec PyProof.Rows
section
variable {Γ : SG} {W : WX} {N : List Str} {ns : List (Str × NameKind)} {k : Nat} {X : Cx} {C : Calls} {M M' M1 : Mem} {H H' H1 : Hp}
def LkS (Γ : SG) (W : WX) (ex : Exn → Sg → Mem → Prop) (M : Mem) (H : Hp) : Prop := ∀ e σ' M' s' H' cls d, ex e σ' M' → SimM Γ M' H' → SimS Γ H' σ' s' → Ste M H M' H' → RX Γ e cls d M' H' → W cls d s' H'
def kS (Γ : SG) (M : Mem) (H : Hp) (Q : Sg → Mem → Prop) (R : L2.St → Hp → Prop) : Prop := ∀ σ' M' s' H', Q σ' M' → SimM Γ M' H' → SimS Γ H' σ' s' → Ste M H M' H' → R s' H'
structure EndsOk (Γ : SG) (D : DE) (R : Ends) (M : Mem) (H : Hp) : Prop where
  nx : kS Γ M H D.nx R.nx
  rt : kV Γ M H D.rt R.rt
  bk : kS Γ M H D.bk R.bk
  ct : kS Γ M H D.ct R.ct
def TS' (Γ : SG) (W : WX) (w : DE → Sg → Mem → Prop) : TS := fun R s H => ∃ σ M D, SimM Γ M H ∧ SimS Γ H σ s ∧ w D σ M ∧ LkS Γ W D.ex M H ∧ EndsOk Γ D R M H
theorem LkS.step {ex : Exn → Sg → Mem → Prop} (l : LkS Γ W ex M H) (st : Ste M H M' H') : LkS Γ W ex M' H' := fun e σ' M2 s' H2 cls d q sm ss st2 r => l e σ' M2 s' H2 cls d q sm ss (st.trans st2) r
theorem kS.step {Q : Sg → Mem → Prop} {R : L2.St → Hp → Prop} (l : kS Γ M H Q R) (st : Ste M H M' H') : kS Γ M' H' Q R := fun σ' M2 s' H2 q sm ss st2 => l σ' M2 s' H2 q sm ss (st.trans st2)
theorem EndsOk.step {D : DE} {R : Ends} (l : EndsOk Γ D R M H) (st : Ste M H M' H') : EndsOk Γ D R M' H' := ⟨l.nx.step st, l.rt.step st, l.bk.step st, l.ct.step st⟩
theorem LkS.e {D : DE} {σ : Sg} {s : L2.St} (l : LkS Γ W D.ex M H) (sm : SimM Γ M H) (ss : SimS Γ H σ s) : LkE Γ W (D.xk σ) M s H := fun e M' H' cls d q sm' st r => l e σ M' s H' cls d q sm' (ss.mono (st.tup sm)) st r
abbrev JS (Γ : SG) (W : WX) (C : Calls) (X : Cx) (e : Stmt) (a : S) : Prop := PS X e (TS' Γ W (wpS Γ.G C a))
abbrev JB (Γ : SG) (W : WX) (C : Calls) (X : Cx) (e : List Stmt) (a : Ss) : Prop := PSs X e (TS' Γ W (wpSs Γ.G C a))

theorem jb_nil : JB Γ W C X [] .nil := pss_imp pss_nil fun R s H ⟨σ, M, D, sm, ss, hw, lk, en⟩ => en.nx σ M s H hw sm ss .refl
theorem jb_cons {e : Stmt} {es : List Stmt} {a : S} {r : Ss} (h1 : JS Γ W C X e a) (h2 : JB Γ W C X es r) : JB Γ W C X (e :: es) (.cons a r) := by
  refine pss_imp (pss_cons h1 h2) fun R s H ⟨σ, M, D, sm, ss, hw, lk, en⟩ => ?_
  refine ⟨σ, M, { D with nx := wpSs Γ.G C r D }, sm, ss, hw, lk, fun σ' M' s' H' q sm' ss' st => ?_, en.rt, en.bk, en.ct⟩
  exact ⟨σ', M', D, sm', ss', q, lk.step st, en.step st⟩
theorem js_pass {pos : Pos} : JS Γ W C X (.Pass pos) .pass := ps_imp ps_pass fun R s H ⟨σ, M, D, sm, ss, hw, lk, en⟩ => en.nx σ M s H hw sm ss .refl
theorem js_brk {pos : Pos} : JS Γ W C X (.Break pos) .brk := ps_imp ps_break fun R s H ⟨σ, M, D, sm, ss, hw, lk, en⟩ => en.bk σ M s H hw sm ss .refl
theorem js_cont {pos : Pos} : JS Γ W C X (.Continue pos) .cont := ps_imp ps_continue fun R s H ⟨σ, M, D, sm, ss, hw, lk, en⟩ => en.ct σ M s H hw sm ss .refl
def notComp : Expr → Bool
  | .ListComp _ _ _ _ => false
  | .SetComp _ _ _ _ => false
  | .DictComp _ _ _ _ _ => false
  | _ => true
theorem swaps_no {e : Expr} (h : notComp e = true) {t : Option Expr} {l : Nat} {env : Env} : swapsWith e t l env = pure false := by
  cases e <;> first | rfl | cases h
theorem js_exp {e : Expr} {a : E} {pos : Pos} (h : JE Γ W C X e a) (hc : notComp e = true) : JS Γ W C X (.Expr e pos) (.exp a) := by
  refine ps_imp (ps_expr h (swaps_no hc)) fun R s H ⟨σ, M, D, sm, ss, hw, lk, en⟩ => ?_
  exact ⟨σ, M, _, _, sm, ss, hw, lk.e sm ss, fun v M' u H' q r sm' st => en.nx σ M' s H' q sm' (ss.mono (st.tup sm)) st⟩
theorem js_ret {e : Expr} {a : E} {pos : Pos} (h : JE Γ W C X e a) : JS Γ W C X (.Return (some e) pos) (.ret a) := by
  refine ps_imp (ps_ret h) fun R s H ⟨σ, M, D, sm, ss, hw, lk, en⟩ => ?_
  exact ⟨σ, M, _, _, sm, ss, hw, lk.e sm ss, en.rt⟩
theorem js_if {t : Expr} {a b : List Stmt} {c : E} {ra rb : Ss} {pos : Pos} (hc : JT Γ W C X t c) (ha : JB Γ W C X a ra) (hb : JB Γ W C X b rb) : JS Γ W C X (.If t a b pos) (.ite c ra rb) := by
  refine ps_imp (ps_if hc ha hb) fun R s H ⟨σ, M, D, sm, ss, hw, lk, en⟩ => ?_
  refine ⟨σ, M, _, _, sm, ss, (show wpE Γ.G C c σ M (fun x M1 => match truthB Γ.G M1 x with | some true => wpSs Γ.G C ra D σ M1 | some false => wpSs Γ.G C rb D σ M1 | none => False) (D.xk σ) from hw), lk.e sm ss, fun v M1 H1 q sm1 st => ?_⟩
  cases e : truthB Γ.G M1 v with
  | none => simp only [e] at q
  | some b =>
    refine ⟨b, rfl, ?_⟩
    cases b with
    | true => simp only [e] at q; exact iteT ⟨σ, M1, D, sm1, ss.mono (st.tup sm), q, lk.step st, en.step st⟩
    | false => simp only [e] at q; exact iteF ⟨σ, M1, D, sm1, ss.mono (st.tup sm), q, lk.step st, en.step st⟩
theorem js_while {t : Expr} {b : List Stmt} {c : E} {rb : Ss} {pos : Pos} (hp : PassesOwn (model X.prog X.w) X.A X.env X.xe) (hc : JT Γ W C X t c) (hb : JB Γ W C X b rb) : JS Γ W C X (.While t b [] pos) (.while_ c rb) := by
  refine ps_imp (ps_while hp hc hb) fun R s H ⟨σ0, M0, D, sm0, ss0, ⟨m0, hw⟩, lk, en⟩ => ?_
  let stp : (Sg → Mem → Prop) → Sg → Mem → Prop := fun k σ M => wpE Γ.G C c σ M (fun x M1 => (match truthB Γ.G M1 x with
      | some true => wpSs Γ.G C rb { D with nx := k, ct := k, bk := D.nx } σ M1
      | some false => D.nx σ M1
      | Option.none => False)) (D.xk σ)
  refine ⟨fun m s H1 => ∃ σ M, SimM Γ M H1 ∧ SimS Γ H1 σ s ∧ Ste M0 H M H1 ∧ whileN stp m σ M, ⟨m0, σ0, M0, sm0, ss0, .refl, hw⟩, ?_⟩
  rintro m s H1 ⟨σ, M, sm, ss, st, q⟩
  cases m with
  | zero => exact q.elim
  | succ m =>
    have lk' := lk.step st
    refine ⟨σ, M, _, _, sm, ss, (show stp (whileN stp m) σ M from q), lk'.e sm ss, fun v M1 H2 q sm1 st1 => ?_⟩
    cases e : truthB Γ.G M1 v with
    | none => simp only [e] at q
    | some b =>
      refine ⟨b, rfl, ?_⟩
      have ss1 := ss.mono (st1.tup sm)
      cases b with
      | false => simp only [e] at q; exact iteF (en.nx σ M1 s H2 q sm1 ss1 (st.trans st1))
      | true =>
        simp only [e] at q
        refine iteT ⟨fun s' H' => ∃ m', m' < m + 1 ∧ ∃ σ M, SimM Γ M H' ∧ SimS Γ H' σ s' ∧ Ste M0 H M H' ∧ whileN stp m' σ M, fun s' H' z => z, ?_⟩
        have stt := st.trans st1
        refine ⟨σ, M1, _, sm1, ss1, q, lk'.step st1, ⟨fun σ' M' s' H' q' sm' ss' st' => ?_, (en.step stt).rt, fun σ' M' s' H' q' sm' ss' st' => ?_, fun σ' M' s' H' q' sm' ss' st' => ?_⟩⟩
        · exact ⟨m, Nat.lt_succ_self m, σ', M', sm', ss', stt.trans st', q'⟩
        · exact (en.step stt).nx σ' M' s' H' q' sm' ss' st'
        · exact ⟨m, Nat.lt_succ_self m, σ', M', sm', ss', stt.trans st', q'⟩
theorem js_for (calm : X.calm = true) {tg it : Expr} {b : List Stmt} {g : Tg} {i : Itr} {rb : Ss} {pos : Pos} (hp : PassesOwn (model X.prog X.w) X.A X.env X.xe) (hi : JI Γ W C X tg it i) (hg : JG Γ W C X tg g) (hb : JB Γ W C X b rb) (hs : notSet it = true) : JS Γ W C X (.For tg it b [] pos) (.for_ g i rb) := by
  refine ps_imp (ps_for hp calm hi hg hb (notSet_eq hs)) fun R s H ⟨σ0, M0, D, sm0, ss0, hw, lk, en⟩ => ?_
  let stp : Val → (Sg → Mem → Prop) → Sg → Mem → Prop := fun x k σ2 M2 => wpG Γ.G C g x σ2 M2 (fun σ3 M3 => wpSs Γ.G C rb { D with nx := k, ct := k, bk := D.nx } σ3 M3) (D.xk σ2)
  refine ⟨σ0, M0, _, _, sm0, ss0, (show wpI Γ.G C i σ0 M0 (fun src M1 => forItems stp src.ok D.nx src.items σ0 M1) (D.xk σ0) from hw), lk.e sm0 ss0, fun src M1 H1 J q0 sm1 st1 iok => ?_⟩
  refine ⟨fun i m s H => m = src.items.length - i ∧ ∃ σ M, SimM Γ M H ∧ SimS Γ H σ s ∧ Ste M1 H1 M H ∧ forItems stp src.ok D.nx (src.items.drop i) σ M, ⟨_, rfl, σ0, M1, sm1, ss0.mono (st1.tup sm0), .refl, q0⟩, ?_⟩
  rintro i m s H ⟨rfl, σ, M, sm, ss, st, q⟩
  have lk' := (lk.step st1).step st
  have en' := (en.step st1).step st
  by_cases hlt : i < src.items.length
  · obtain ⟨x, hx⟩ : ∃ x, src.items[i]? = some x := ⟨_, List.getElem?_eq_getElem hlt⟩
    have hdrop : src.items.drop i = x :: src.items.drop (i + 1) := by
      rw [List.drop_eq_getElem_cons hlt]
      rw [List.getElem?_eq_getElem hlt] at hx
      cases hx
      rfl
    rw [hdrop] at q
    obtain ⟨hok, q⟩ := q
    obtain ⟨go, yl⟩ := (iok i M H sm st hok).1 hlt
    refine .inr ⟨go, fun s' H' => ∃ m', m' < src.items.length - i ∧ (m' = src.items.length - (i + 1) ∧ ∃ σ M, SimM Γ M H' ∧ SimS Γ H' σ s' ∧ Ste M1 H1 M H' ∧ forItems stp src.ok D.nx (src.items.drop (i + 1)) σ M), fun s' H' z => z, fun x' H' y => ?_⟩
    obtain ⟨v, hv, rv, sm2, st2⟩ := yl x' H' y
    rw [hx] at hv
    cases hv
    have ss2 := ss.mono (st2.tup sm)
    refine ⟨x, σ, M, _, _, rv, sm2, ss2, q, (lk'.step st2).e sm2 ss2, fun σ3 M3 s3 H3 q3 sm3 ss3 st3 u3 => ?_⟩
    have nx : kS Γ M3 H3 (forItems stp src.ok D.nx (src.items.drop (i + 1))) (fun s' H' => ∃ m', m' < src.items.length - i ∧ (m' = src.items.length - (i + 1) ∧ ∃ σ M, SimM Γ M H' ∧ SimS Γ H' σ s' ∧ Ste M1 H1 M H' ∧ forItems stp src.ok D.nx (src.items.drop (i + 1)) σ M)) := fun σ' M' s' H' q' sm' ss' st' =>
      ⟨_, by omega, rfl, σ', M', sm', ss', ((st.trans st2).trans st3).trans st', q'⟩
    exact ⟨σ3, M3, _, sm3, ss3, q3, (lk'.step st2).step st3, ⟨nx, ((en'.step st2).step st3).rt, ((en'.step st2).step st3).nx, nx⟩⟩
  · have hdrop : src.items.drop i = [] := List.drop_eq_nil_of_le (by omega)
    rw [hdrop] at q
    exact .inl ⟨(iok i M H sm st q.1).2 (by omega), en'.nx σ M s H q.2 sm ss .refl⟩
/-! ### assignments -/
def notTup : Expr → Bool
  | .Tuple _ _ _ => false
  | _ => true
def okAsg : Expr → Expr → Bool
  | .Name _ _, e => notComp e
  | .Tuple _ _ _, e => notTup e
  | .Subscript _ _ _, e => true
  | _, _ => false
theorem okAsg_sw {t e : Expr} (h : okAsg t e = true) {l : Nat} {env : Env} : swapsWithSole [t] e l env = pure false := by
  unfold swapsWithSole
  cases t <;> try (cases h; done)
  · cases e <;> rfl
  · exact swaps_no (show notComp e = true from h)
  · cases e <;> rfl
theorem okAsg_ns {t e : Expr} (h : okAsg t e = true) {env : Env} : (assignEach [t] env).map (·.2) = [assign t env] := by
  cases t <;> first | (cases h; done) | rfl
theorem okAsg_st {t e : Expr} (h : okAsg t e = true) {env : Env} : swappedStores [t] e env = pure none := by
  cases t <;> first | (cases h; done) | rfl | skip
  all_goals first | rfl | (cases e <;> first | rfl | cases h)
theorem js_asg {t e : Expr} {g : Tg} {a : E} {pos : Pos} (he : JE Γ W C X e a) (hg : JG Γ W C X t g) (ok : okAsg t e = true) : JS Γ W C X (.Assign [t] e pos) (.asg g a) := by
  refine ps_imp (ps_asg he hg (okAsg_sw ok) (okAsg_st ok) (h1 := okAsg_ns ok)) fun R s H ⟨σ, M, D, sm, ss, hw, lk, en⟩ => ?_
  refine ⟨σ, M, _, _, sm, ss, (show wpE Γ.G C a σ M (fun v M1 => wpG Γ.G C g v σ M1 D.nx (D.xk σ)) (D.xk σ) from hw), lk.e sm ss, fun v M1 u H1 q r sm1 st => ?_⟩
  have ss1 := ss.mono (st.tup sm)
  exact ⟨v, σ, M1, _, _, r, sm1, ss1, q, (lk.step st).e sm1 ss1, fun σ' M' s' H' q' sm' ss' st' u' => en.nx σ' M' s' H' q' sm' ss' (st.trans st')⟩
end
end MP
/-! Comprehensions as terms and statements; errors raised and caught; what is left of the terms. -/
namespace MP
open PySem L2
open PySem.Spec PyProof.Rows
section
variable {Γ : SG} {W : WX} {N : List Str} {ns : List (Str × NameKind)} {k : Nat} {X : Cx} {C : Calls} {M M' M1 : Mem} {H H' H1 : Hp}
def relN (ns sc : List (Str × NameKind)) : List (Str × NameKind) := sc.map fun (n, k) => if (k == .free && ns.lookup n == some .cell) then (n, .cell) else (n, k)
theorem rel_eq (g : Gd Γ N ns W k X) {scope : Scope} : (relabel scope X.env).names = relN ns scope.names := by
  unfold relabel relN
  simp only [g.kd, Env.kindOf, g.ns, (by decide : (ScopeKind.function == ScopeKind.function) = true), Bool.and_true]
theorem gd_blk (g : Gd Γ N ns W k X) {s : Shared} {H : Hp} {scope : Scope} {Cc : Addr} {cl : List (Str × Addr)} {fp : List Addr} (hk : scope.kind = .function) : Gd Γ N (relN ns scope.names) W0 k (X.blk s H scope (compEnvC scope cl Cc X.env) fp) where
  hP := g.hP
  hw := g.hw
  hK := g.hK
  hmg := g.hmg
  hbase := g.hbase
  hN := g.hN
  nd := g.nd
  ns := rel_eq g
  kd := hk
  calm := g.calm
  tk := takes0
  room := ⟨g.room.hd, g.room.dp, g.room.un⟩
  gA := g.gA
theorem fn_blk {scope : Scope} {x : Str} (h : isLoc (scope.names.lookup x) = true) : (scope.names.lookup x == some .cell) = true ∨ (relN ns scope.names).lookup x = some .local := by
  cases e : scope.names.lookup x with
  | none => rw [e] at h; cases h
  | some q =>
    rw [e] at h
    cases q <;> first | (cases h; done) | skip
    · refine .inr ?_
      unfold relN
      have : ∀ l : List (Str × NameKind), l.lookup x = some .local → (l.map fun (n, k) => if (k == .free && ns.lookup n == some .cell) then (n, NameKind.cell) else (n, k)).lookup x = some .local := by
        intro l
        induction l with
        | nil => intro h; simp at h
        | cons p r ih =>
          obtain ⟨n, q⟩ := p
          intro h
          rw [List.lookup_cons] at h
          rw [List.map_cons]
          by_cases hx : (x == n) = true
          · rw [hx] at h
            simp only [] at h
            cases h
            have : (x == n) = true := hx
            simp [List.lookup_cons, this]
          · have hx' : (x == n) = false := by simpa using hx
            rw [hx'] at h
            simp only [] at h
            have ih' := ih h
            by_cases hc : (q == .free && ns.lookup n == some .cell) = true
            · simp only [hc, if_true, List.lookup_cons, hx']; exact ih'
            · simp only [hc, if_false, List.lookup_cons, hx', Bool.false_eq_true]; exact ih'
      exact this _ e
    · exact .inl rfl
theorem blk_at (g : Gd Γ N ns W k X) {scope : Scope} {own : List (Str × Nat)} (ok : blkC N ⟨.function, ns, false, false, []⟩ scope own = true) : BlkOk X.N X.env.scope scope own := by
  rw [g.hN]
  refine blkOk_by ?_
  unfold blkC at ok ⊢
  rw [g.ns]
  exact ok
theorem je_comp (g : Gd Γ N ns W k X) {elt tg iter : Expr} {ifs : List Expr} {scope : Scope} {own : List (Str × Nat)} {pos : Pos} {a : E} {gt : Tg} {it : Itr} {r : Es} (ok : blkC N ⟨.function, ns, false, false, []⟩ scope own = true) (hids : ∀ i ∈ idsG gt, i ∈ own.map (·.2)) (hif : r = .nil ∨ ∃ b, r = .cons b .nil)
    (hi : JI Γ W C X tg iter it) (hg : ∀ Y, Gd Γ N (relN ns scope.names) W0 k Y → (∀ x, isLoc (scope.names.lookup x) = true → Y.fn x = true ∨ (relN ns scope.names).lookup x = some .local) → JG Γ W0 C Y tg gt)
    (ht : ∀ Y, Gd Γ N (relN ns scope.names) W0 k Y → PTs Y ifs (TIf Γ C r)) (he : ∀ Y, Gd Γ N (relN ns scope.names) W0 k Y → JE Γ W0 C Y elt a) (hs : notSet iter = true) :
    JE Γ W C X (.ListComp elt [⟨tg, iter, ifs, 0⟩] scope pos) (.comp a (own.map (·.2)) gt it r) := by
  have bo : BlkOk X.N X.env.scope scope own := blk_at g ok
  have hk := bo.kind
  refine pe_imp (pe_lc g.calm (by rw [g.hN]; exact g.nd) hi bo (fun s H C' cl fp => hg _ (gd_blk g hk) fun x hx => fn_blk hx) (fun s H C' cl fp => ht _ (gd_blk g hk)) (fun s H C' cl fp => he _ (gd_blk g hk)) (notSet_eq hs)) fun s H R q => tlc_ok hids hif q
theorem js_comp (g : Gd Γ N ns W k X) {y : Str} {iy : Nat} {py spos : Pos} {elt tg iter : Expr} {ifs : List Expr} {scope : Scope} {own : List (Str × Nat)} {pos : Pos} {a : E} {gt : Tg} {it : Itr} {r : Es} (ok : blkC N ⟨.function, ns, false, false, []⟩ scope own = true) (hids : ∀ i ∈ idsG gt, i ∈ own.map (·.2)) (hif : r = .nil ∨ ∃ b, r = .cons b .nil)
    (hy : N[iy]? = some y) (hyl : ns.lookup y = some .local) (hl : (py.line == pos.line) = true) (hsn : (scope.names.any fun (n, k) => n == y && (k == .local || k == .cell)) = false)
    (hi : JI Γ W C X tg iter it) (hg : ∀ Y, Gd Γ N (relN ns scope.names) W0 k Y → (∀ x, isLoc (scope.names.lookup x) = true → Y.fn x = true ∨ (relN ns scope.names).lookup x = some .local) → JG Γ W0 C Y tg gt)
    (ht : ∀ Y, Gd Γ N (relN ns scope.names) W0 k Y → PTs Y ifs (TIf Γ C r)) (he : ∀ Y, Gd Γ N (relN ns scope.names) W0 k Y → JE Γ W0 C Y elt a) (hs : notSet iter = true) :
    JS Γ W C X (.Assign [.Name y py] (.ListComp elt [⟨tg, iter, ifs, 0⟩] scope pos) spos) (.asg (.name iy) (.comp a (own.map (·.2)) gt it r)) := by
  have bo : BlkOk X.N X.env.scope scope own := blk_at g ok
  have hk := bo.kind
  have hi' : iy < N.length := (List.getElem?_eq_some_iff.mp hy).1
  refine ⟨fun pins s σ H D I q => (ps_setLc (i := iy) g.calm (by rw [g.hN]; exact g.nd) (by rw [g.hN]; exact hy) (by rw [g.ns]; exact hyl) (sw_true g.kd (by rw [g.ns]; exact hyl) hl hsn) hi bo (fun s H C' cl fp => hg _ (gd_blk g hk) fun x hx => fn_blk hx) (fun s H C' cl fp => ht _ (gd_blk g hk)) (fun s H C' cl fp => he _ (gd_blk g hk)) (notSet_eq hs)).run pins s σ H D I ?_⟩
  have hlen : iy < σ.length := by rw [I.len, g.hN]; exact hi'
  obtain ⟨σ0, M, D0, sm, ss, hw, lk, en⟩ := q
  refine tlc_ok hids hif ⟨σ0, M, _, _, sm, ss, (show wpE Γ.G C (.comp a (own.map (·.2)) gt it r) σ0 M (fun v M1 => D0.nx (sets σ0 iy (some v)) M1) (D0.xk σ0) from hw), lk.e sm ss, fun v M1 u H1 q r sm1 st => ?_⟩
  exact en.nx _ M1 _ H1 q sm1 (sims_set (ss.mono (st.tup sm)) r hlen) st
end
end MP
/-! Errors raised and caught. -/
namespace MP
open PySem L2
open PySem.Spec PyProof.Rows
section
variable {Γ : SG} {W : WX} {N : List Str} {ns : List (Str × NameKind)} {k : Nat} {X : Cx} {C : Calls} {M M' M1 : Mem} {H H' H1 : Hp}
/-- what is known of the own exception c, named x, with the one field f -/
structure XC (Γ : SG) (c : Nat) (x f : Str) : Prop where
  gm : Γ.mg x = some (.ref (Γ.cad c))
  ox : OexC Γ.K (Γ.cad c)
  mkr : ∃ (fI : Addr) (fd : FuncData), PySem.W.findIn Γ.K (.ref (Γ.cad c)) "__init__" = some (some (.ref fI)) ∧ PySem.W.typeIn Γ.K (.ref fI) = some (.type "function") ∧ FnOk Γ.P Γ.w Γ.K Γ.mg Γ.base (L2.CX Γ.P Γ.w) 1 fI fd ["self", f] (spIni (Γ.cad c) f) ∧ Binds Γ.K fd ["self", f] []
  ef : Γ.G.efs c = [f]
  ck : Γ.cok c = true
theorem js_raise (g : Gd Γ N ns W k X) (hk : 2 ≤ k) {c : Nat} {x f : Str} {e : Expr} {a : E} {p pos pos2 : Pos} (T : XC Γ c x f) (hx : ns.lookup x = some .globalImplicit) (hd : (x == ("__debug__" : Str)) = false) (ha : JE Γ W C X e a) (hs : notStar e = true) :
    JS Γ W C X (.Raise (some (.Call (.Name x p) [e] [] pos)) none pos2) (.raise c (.cons a .nil)) := by
  obtain ⟨fI, fd, h1, h2, h3, h4⟩ := T.mkr
  rw [← g.hP, ← g.hw, ← g.hK, ← g.hmg, ← g.hbase] at h3
  refine ps_imp (ps_raise g.calm g.tk (pmk_oex (by rw [g.hK]; exact T.ox) (by rw [g.hK]; exact h1) (by rw [g.hK]; exact h2) h3 (g.room.mono hk) (by rw [g.hK]; exact h4) .nil passL (gl_of g hx) (by rw [g.hmg]; exact T.gm) (ja_cons ha ja_nil hs) hd (starEach_ns hs) (starEach_all rfl))) fun R s H ⟨σ, M, D, sm, ss, hw, lk, en⟩ => ?_
  refine ⟨σ, M, fun vs M1 => ∃ v, vs = [v] ∧ D.ex ⟨c, [(f, v)]⟩ σ M1, _, sm, ss, ?_, lk.e sm ss, fun vs M1 us H1 ⟨v, e, q⟩ rv sm1 st => ?_⟩
  · have hw : wpE Γ.G C a σ M (fun x M1 => [x].length = (Γ.G.efs c).length ∧ D.ex ⟨c, (Γ.G.efs c).zip [x]⟩ σ M1) (D.xk σ) := hw
    show wpE Γ.G C a σ M (fun x M1 => ∃ v, [x] = [v] ∧ D.ex ⟨c, [(f, v)]⟩ σ M1) (D.xk σ)
    have e : (fun (x : Val) (M1 : Mem) => [x].length = (Γ.G.efs c).length ∧ D.ex ⟨c, (Γ.G.efs c).zip [x]⟩ σ M1) = fun x M1 => ∃ v, [x] = [v] ∧ D.ex ⟨c, [(f, v)]⟩ σ M1 := by
      funext x M1
      rw [T.ef]
      exact propext ⟨fun ⟨_, h⟩ => ⟨x, rfl, h⟩, fun ⟨v, e, h⟩ => by cases e; exact ⟨rfl, h⟩⟩
    rw [e] at hw
    exact hw
  · subst e
    obtain ⟨u, rfl, ru⟩ := rv.one
    refine ⟨by show 1 ≤ 1000; decide, fun b hb => ?_⟩
    refine ⟨b, u, rfl, upd_same, fun dx hdx ne => ?_⟩
    have hdx1 : H1 dx = none := by rw [upd_ne ne] at hdx; exact hdx
    refine ⟨rfl, dx, [(f, u)], upd_same, by rw [upd_ne ne]; exact upd_same, hdx1, ?_⟩
    have eh : upd (del (upd (upd (upd H1 b (exo b (Γ.cad c) none)) dx (exd dx [(f, u)])) b (exo b (Γ.cad c) (some dx))) b) dx (.xd [(f, u)]) = upd H1 dx (.xd [(f, u)]) := by
      funext z
      by_cases z1 : z = dx
      · subst z1; rw [upd_same, upd_same]
      · rw [upd_ne z1, upd_ne z1]
        by_cases z2 : z = b
        · subst z2; rw [del_same, hb]
        · rw [del_ne z2, upd_ne z2, upd_ne z1, upd_ne z2]
    rw [eh]
    have tp := (ste_side (M := M1) (o := HO.xd [(f, u)]) hdx1).tup sm1
    exact lk _ σ M1 s _ _ _ q (sim_side sm1 hdx1) ((ss.mono (st.tup sm)).mono tp) (st.trans (ste_side hdx1)) ⟨rfl, .inr ⟨dx, [(f, u)], rfl, upd_same, sm1.fresh hdx1, rfl, ru.mono tp, trivial⟩, T.ck, by rw [T.ef]; rfl⟩
end
end MP
/-! try: .. except C as n: y = n. The error stays, tracked. -/
namespace MP
open PySem L2
open PySem.Spec PyProof.Rows
section
variable {X : Cx} {pins : List (Addr × Obj)} {σ : L2.St} {H : Hp} {s : Shared}
/-- an object of this call that nothing tracks is tracked -/
theorem inv_track {a : Addr} {oe : Obj} {o : HO} (I : L2.Inv X pins σ H s) (ha : s.heap.get? a = some oe) (hn : H a = none) (h0 : X.s_0.heap.get? a = none) (hL : a ≠ X.env.locals) (hc : ∀ v, oe.data ≠ .cell v) (hp : ∀ p ∈ X.pn ++ pins, p.1 ≠ a)
    (new : ObjOk X.prog X.w (upd H a o) s.heap a o) : L2.Inv X pins σ (upd H a o) s where
  ok := I.ok
  os := I.os
  bare := I.bare
  base := {
    keep := I.base.keep
    slot := I.base.slot
    free := fun b u e n hx => by
      rw [upd_ne (fun z => by rw [z, h0] at e; cases e)]
      exact I.base.free b u e n hx
    there := I.base.there
    tups := fun b xs e => by
      have q := I.base.tups b xs e
      rw [upd_ne (ne_of_none q hn)]; exact q
    frzs := fun b u v e => by
      have q := I.base.frzs b u v e
      rw [upd_ne (ne_of_none q hn)]; exact q
    tbls := fun b ps e => by
      obtain ⟨m, q⟩ := I.base.tbls b ps e
      exact ⟨m, by rw [upd_ne (ne_of_none q hn)]; exact q⟩ }
  loc := I.loc
  cell := I.cell
  free := by rw [upd_ne (Ne.symm hL)]; exact I.free
  freeC := fun x c e => by
    rw [upd_ne]
    · exact I.freeC x c e
    · intro z
      obtain ⟨v, ob, ho, hd⟩ := I.cell x c e
      rw [z, ha] at ho
      cases ho
      exact hc _ hd
  pin := fun p hp' => by
    obtain ⟨e1, e2, e3⟩ := I.pin p hp'
    exact ⟨e1, by rw [upd_ne (hp p hp')]; exact e2, e3⟩
  hok := fun b u e => by
    by_cases hb : b = a
    · subst hb; rw [upd_same] at e; cases e; exact new
    · rw [upd_ne hb] at e
      exact (I.hok b u e).stay (fun c v _ q => q) (fun c q => by rw [upd_ne (ne_of_none q hn)]; exact q) fun c xs q => by rw [upd_ne (ne_of_none q hn)]; exact q
  len := I.len
theorem exh_ok {P : Program} {w : World} {H : Hp} {h : Heap} {a C : Addr} {oe : Obj} {d : Option Addr} {vs : Array Value} (e : h.get? a = some oe) (z : Zc (.ref C) d oe) (hd : oe.data = .fields vs) : ObjOk P w H h a (ExH C a d) :=
  ⟨⟨oe, vs, e, z, hd⟩, ⟨oe, e⟩, fun _ _ ⟨o, v, q, r⟩ k => ⟨o, v, k o q, r⟩⟩
/-- what the clause 'except c as n: y = n' wishes: n in slot i, y in slot j -/
def wHold (K : PySem.W.Frag) (nn : Nat) (c : Value) (i j : Nat) (Wout : L2.WX) (D : Ends) : L2.WX := fun cls d σ H =>
  ∃ b, PySem.W.exmOne K cls c = some b ∧ (b = true → σ.length = nn → ∀ a C, cls = .ref C → H a = none → D.nx (((σ.set i (some (.ref a))).set j (some (.ref a))).set i none) (upd H a (ExH C a d))) ∧ (b = false → Wout cls d σ H) ∧ ∃ C, cls = .ref C
theorem ps_try_hold {x n y : Str} {c : Value} {i j : Nat} {body : List Stmt} {np yp nq ap pos pos' : Pos} {tb : L2.WX → TS} {Wout : L2.WX} (hs : X.stack = X.env :: X.outer) (hf : X.env.frame = some X.env.locals) (hex : X.ex = []) (hN : X.N.Nodup) (hi : X.N[i]? = some n) (hln : X.env.kindOf n = some .local)
    (hj : X.N[j]? = some y) (hly : X.env.kindOf y = some .local) (hnd : (n == ("__debug__" : Str)) = false) (hnc : (n == ("__classdict__" : Str)) = false) (hc : Names X x c) (tk : Takes X Wout)
    (hb : ∀ (W : L2.WX) (pn : List (Addr × Obj)) (xe : Value → Shared → Prop), Takes (X.tr pn xe) W → PassesOwn (model X.prog X.w) X.A X.env xe → PSs (X.tr pn xe) body (tb W)) :
    PS X (.Try body [.ExceptHandler (some (.Name x np)) (some n) [.Assign [.Name y yp] (.Name n nq) ap] pos'] [] [] pos) (fun D σ H => tb (wHold X.K X.N.length c i j Wout D) D σ H) := by
  refine ⟨fun pins s σ H D I h => ?_⟩
  have ok := I.ok
  have hfr : X.A.frames = some (X.env :: X.outer) := by rw [ok.frames, hs]
  have hloc : L2.Loc X.env.scope n := .inl hln
  refine wpAny_Try_except ?_
  refine wpAny_mono ((hb (wHold X.K X.N.length c i j Wout D) (X.pn ++ pins) (fun e s₁ => wpAny (model X.prog X.w) X.A (noteFrame e X.env) (fun _ s₂ => wpAny (model X.prog X.w) X.A (setFlight e none) (fun _ s₃ =>
    wpAny (model X.prog X.w) X.A (handleBy e X.env [.ExceptHandler (some (.Name x np)) (some n) [.Assign [.Name y yp] (.Name n nq) ap] pos']) (SP X pins D) X.xe s₃) X.xe s₂) X.xe s₁) (fun u s' xx => ?_) PassesOwn.looking).run [] s σ H D (I.toTry _) h) (fun f s1 hsp => ?_) (fun e s1 he => he)
  · obtain ⟨a, B, sI, pins', σ', H', cls, d, rfl, J', nb, up, sky, na, os, ag, b, hb1, hyes, hno, Cc, ecls⟩ := xx
    have J : L2.Inv X pins σ' H' sI := J'.ofTry ok
    have sky' : Sky B (X.env :: X.outer) a (Zc cls d) X.env.locals s'.heap := by rw [← hs]; exact sky
    show wpAny (model X.prog X.w) X.A (noteFrame (.ref a) X.env) _ _ _
    refine Sky.land Zc.steady hfr hf sky' fun h3 fl3 up3 => ?_
    have J3 : L2.Inv X pins σ' H' { s' with heap := h3 } := J.landed nb fl3.1 (up.trans up3) os ag
    obtain ⟨oe3, vs3, he3, hz3, hd3⟩ := fl3.there
    have notFr : ∀ {h : Heap} {o : Obj} {vs : Array Value}, h.FunFrames B (X.env :: X.outer) → h.get? a = some o → o.data = .fields vs → a ∉ frs (X.env :: X.outer) := fun {h o vs} ff e dd hm => by
      obtain ⟨_, o', e', hnf⟩ := ff.mem hm
      rw [e] at e'; cases e'
      exact hnf _ dd
    have nfr := notFr fl3.2.2.1 he3 hd3
    have nL : a ≠ X.env.locals := fun z => nfr (List.mem_filterMap.mpr ⟨X.env, List.mem_cons_self, by rw [hf, z]⟩)
    have nF : a ∉ X.fs := fun hm => by
      obtain ⟨e, he, q⟩ := List.mem_filterMap.mp hm
      exact nfr (List.mem_filterMap.mpr ⟨e, List.mem_cons_of_mem _ he, q⟩)
    -- the error is new to this call
    have nI : sI.heap.get? a = none := by
      cases e : sI.heap.get? a with
      | none => rfl
      | some o =>
        have z := nb a o e (by rw [hs]; exact nfr)
        have z2 : B.get? a = none := fl3.2.1
        rw [z2] at z; cases z
    have n0 : X.s_0.heap.get? a = none := by
      cases e : X.s_0.heap.get? a with
      | none => rfl
      | some o =>
        obtain ⟨o', z⟩ := J.base.there a o e (by rw [hex]; simp)
        rw [nI] at z; cases z
    have nP : ∀ p ∈ X.pn ++ pins, p.1 ≠ a := fun p hp z => by
      have q := (J.pin p hp).1
      rw [z, nI] at q; cases q
    have S3 := J3.suite he3 hd3 na nL nF
    refine wpAny_handleBy_cons (codeAny_handlers_test ?_) (by intro q; cases q)
    have LT : PySem.W.Looks (model X.prog X.w) h3 (typeOf (.ref a)) cls := fun A Q E s k q => wpAny_typeOf_ref (k _ _ he3) (by rw [hz3.1]; exact q)
    have LM := PySem.W.exm_one (M := model X.prog X.w) (J3.kIn) LT hb1
    have test : ∀ {Q : Value → Shared → Prop} {E : Value → Shared → Prop}, Q c { s' with heap := h3 } → wpAny (model X.prog X.w) (X.A.mark (some (.ref a))) (eval (.Name x np) X.env) Q E { s' with heap := h3 } := fun {Q E} q => by
      obtain ⟨hg, hdbg, hm | ⟨hm, hv, hnn⟩⟩ := hc
      · exact ld_glob (X := X.suite a ((a, oe3) :: (X.pn ++ pins))) S3 hg hm q hdbg
      · exact ld_blt (X := X.suite a ((a, oe3) :: (X.pn ++ pins))) S3 hg hm hv q hnn hdbg
    refine test (LM.here ?_)
    cases b with
    | true =>
      refine codeAny_handlers_suite_as ?_
      refine HandSPX.lands_againZ fl3 fun h4 fl4 up4 => ?_
      have J4 : L2.Inv X pins σ' H' { s' with heap := h4 } := J.landed nb fl4.1 ((up.trans up3).trans up4) os ag
      obtain ⟨oe4, vs4, he4, hz4, hd4⟩ := fl4.there
      have S4 := J4.suite he4 hd4 na nL nF
      refine store_ok (X := X.suite a ((a, oe4) :: (X.pn ++ pins))) (v := .ref a) S4 hN hi hloc rfl (fun s5 S5 => ?_) (.inr hln)
      have hi5 : (σ'.set i (some (L2.V.ref a)))[i]? = some (some (L2.V.ref a)) := by
        rw [List.getElem?_set_self]
        rw [S4.len]
        exact (List.getElem?_eq_some_iff.mp hi).1
      have suite : PSs (X.suite a ((a, oe4) :: (X.pn ++ pins))) [.Assign [.Name y yp] (.Name n nq) ap] (tAsg (tVar i) (gName j)) := pss_one (ps_set hN hj (.inl hly) (pe_var hi (.inl hln) hnd hnc) rfl (.inr hly))
      refine wpAny_mono (suite.run [] s5 _ H' { nx := fun σ6 H6 => σ6 = (σ'.set i (some (L2.V.ref a))).set j (some (L2.V.ref a)) ∧ H6 = H', rt := fun _ _ => False } S5 ⟨_, hi5, rfl, rfl⟩) (fun f s6 hsp => ?_) (fun _ _ z => False.elim z)
      have end_ : ∀ {σ6 : L2.St} {H6 : Hp} {Q : Shared → Prop}, L2.Inv (X.suite a ((a, oe4) :: (X.pn ++ pins))) [] σ6 H6 s6 → (∀ s7, L2.Inv X ((a, oe4) :: pins) (σ6.set i none) H6 s7 → Q s7) →
          wpAny (model X.prog X.w) X.A (do bindName X.env n .none; unbindBehindTheSuite X.env n pos') (fun _ s7 => Q s7) X.xe s6 := fun {σ6 H6 Q} S6 hq => by
        have pa := S6.pin (a, oe4) (List.mem_append_left _ List.mem_cons_self)
        have U6 : L2.Inv X pins σ6 H6 s6 := S6.unsuite ok
        refine gone_ok (U6.pins_of (pins' := (a, oe4) :: pins) fun p hp => ?_) hN hi hln hq
        rcases List.mem_cons.mp hp with z | z
        · rw [z]; exact pa
        · exact U6.pin p (List.mem_append_right _ z)
      cases f with
      | next =>
        obtain ⟨σ6, H6, S6, e6, e7⟩ := hsp
        subst e6 e7
        refine end_ S6 fun s7 J7 => ?_
        have p7 := J7.pin (a, oe4) (List.mem_append_right _ List.mem_cons_self)
        have U7 : L2.Inv X pins _ _ s7 := J7.pins_of fun p hp => J7.pin p (List.mem_append_right _ (List.mem_cons_of_mem _ hp))
        subst ecls
        exact ⟨_, _, inv_track U7 p7.1 na n0 nL (fun v e => by rw [hd4] at e; cases e) nP (exh_ok p7.1 hz4 hd4), hyes rfl J.len a Cc rfl na⟩
      | brk => obtain ⟨_, _, _, q⟩ := hsp; exact q.elim
      | cont => obtain ⟨_, _, _, q⟩ := hsp; exact q.elim
      | ret u => obtain ⟨_, _, _, _, _, q⟩ := hsp; exact q.elim
    | false =>
      show wpAny _ X.A (handleBy (.ref a) X.env []) _ _ _
      refine wpAny_handleBy_nil ?_
      obtain ⟨k1, k2, k3, oe, vs, T, oT, ts', he, hz, hd, h1, hr⟩ := id fl3
      unfold PySem.passOn
      refine wpAny_bind (wpAny_field he hd h1 ?_)
      rw [if_neg (show ¬ ((Value.ref T == Value.none) = true) from by simp)]
      have fin : wpAny (model X.prog X.w) X.A (setFlight (.ref a) X.env.frame) (fun _ s4 => wpAny (model X.prog X.w) X.A (throw (.ref a) : Sem Flow) (SP X pins D) X.xe s4) X.xe { s' with heap := h3 } := by
        rw [hf]
        refine HandSPX.setFlight_upZ fl3 fun h4 hh4 up4 => wpAny_throw (tk _ _ ?_)
        exact ⟨a, B, sI, pins, σ', H', cls, d, rfl, J, nb, (up.trans up3).trans up4, .inr (.inr (by rw [hs]; exact hh4)), na, os, ag, hno rfl⟩
      first
        | exact wpAny_bind (wpAny_pure (wpAny_bind fin))
        | exact wpAny_bind fin
  · cases f with
    | next =>
      obtain ⟨σ', H', J', q⟩ := hsp
      exact wpAny_execs_nil ⟨σ', H', J'.ofTry ok, q⟩
    | brk =>
      obtain ⟨σ', H', J', q⟩ := hsp
      exact ⟨σ', H', J'.ofTry ok, q⟩
    | cont =>
      obtain ⟨σ', H', J', q⟩ := hsp
      exact ⟨σ', H', J'.ofTry ok, q⟩
    | ret u =>
      obtain ⟨v, σ', H', J', r, q⟩ := hsp
      exact ⟨v, σ', H', J'.ofTry ok, r, q⟩
end
end MP
/-! try as a statement; isinstance; fields of errors; slices; methods. -/
namespace MP
open PySem L2
open PySem.Spec PyProof.Rows
section
variable {Γ : SG} {W : WX} {N : List Str} {ns : List (Str × NameKind)} {k : Nat} {X : Cx} {C : Calls} {M M' M1 : Mem} {H H' H1 : Hp}
def clV (Γ : SG) : Cl → Value
  | .ty n => .type n
  | .own c => .ref (Γ.cad c)
/-- what the written part says of an error's class -/
structure EC (K : PySem.W.Frag) (C : Addr) : Prop where
  cl : (PySem.W.clsIn K C).isSome = true
  ga : PySem.W.findIn K (.ref C) "__getattribute__" = some (some (.builtin "BaseException.__getattribute__"))
  gt : PySem.W.findIn K (.ref C) "__getattr__" = some none
  sub : PySem.W.subIn K (.ref C) (.type "BaseException") = some true
  hd : PySem.W.hasDictIn K C = true
  ha : PySem.W.findIn K (.ref C) "__class__" = some (some (.builtin "object.__class__"))
  hm : PySem.W.mroIn K C (.type "object") = some true
structure GK (Γ : SG) : Prop where
  hn : PySem.W.specialIn Γ.K (.builtin "object.__class__") "__get__" = some (some (.builtin "getset_descriptor.__get__"))
  htk : PySem.W.takesIn Γ.K (.builtin "object.__class__") = some true
  exc : ∀ c, Γ.cok c = true → EC Γ.K (Γ.cad c)
  kitE : ∀ c cl, Γ.cok c = true → Γ.clok cl = true → PySem.W.kitOne Γ.K (.ref (Γ.cad c)) (clV Γ cl) = some (Γ.G.isOwn c cl)
  kitT : ∀ t cl, t ∈ ["NoneType", "bool", "int", "str", "tuple", "list", "dict"] → Γ.clok cl = true → PySem.W.kitOne Γ.K (.type t) (clV Γ cl) = some (isTy t cl)
  nf : ∀ c f, Γ.cok c = true → f ∈ Γ.G.efs c → PySem.W.findIn Γ.K (.ref (Γ.cad c)) f = some none
  exm : ∀ c d, Γ.cok c = true → Γ.clok (.own d) = true → PySem.W.exmOne Γ.K (.ref (Γ.cad c)) (.ref (Γ.cad d)) = some (Γ.G.isOwn c (.own d))
/-- .. where statements run -/
structure GdS (Γ : SG) (N : List Str) (ns : List (Str × NameKind)) (W : WX) (k : Nat) (X : Cx) : Prop where
  g : Gd Γ N ns W k X
  po : PassesOwn (model X.prog X.w) X.A X.env X.xe
  st : X.stack = X.env :: X.outer
  fr : X.env.frame = some X.env.locals
  ex : X.ex = []
  fn : ∀ x, isLoc (ns.lookup x) = true → X.fn x = true ∨ ns.lookup x = some .local
theorem gds_tr (g : GdS Γ N ns W k X) {W' : WX} {pn : List (Addr × Obj)} {xe : Value → Shared → Prop} (tk : Takes (X.tr pn xe) W') (po : PassesOwn (model X.prog X.w) X.A X.env xe) : GdS Γ N ns W' k (X.tr pn xe) where
  g := { hP := g.g.hP, hw := g.g.hw, hK := g.g.hK, hmg := g.g.hmg, hbase := g.g.hbase, hN := g.g.hN, nd := g.g.nd, ns := g.g.ns, kd := g.g.kd, calm := g.g.calm, tk := tk, room := g.g.room, gA := g.g.gA }
  po := po
  st := g.st
  fr := g.fr
  ex := g.ex
  fn := g.fn
theorem sims_hold {s : L2.St} {σ : Sg} {i j : Nat} {v : Val} {u : HV} (x : SimS Γ H σ s) (r : RV Γ H v u) (hj : j < s.length) : SimS Γ H (sets (sets σ j (some v)) i none) (((s.set i (some u)).set j (some u)).set i none) := fun q w e => by
  by_cases h' : i = q
  · subst h'
    have := gets_sets_same e
    cases this
  · rw [gets_sets_ne h'] at e
    by_cases h : j = q
    · subst h
      have := gets_sets_same e
      cases this
      exact ⟨u, by rw [List.getElem?_set_ne h', List.getElem?_set_self (by rw [List.length_set]; exact hj)], r⟩
    · rw [gets_sets_ne h] at e
      obtain ⟨u', a, b⟩ := x q w e
      exact ⟨u', by rw [List.getElem?_set_ne h', List.getElem?_set_ne h, List.getElem?_set_ne h']; exact a, b⟩
theorem js_try (K : GK Γ) (g : GdS Γ N ns W k X) {x n y : Str} {c : Nat} {i j : Nat} {body : List Stmt} {np yp nq ap pos pos' : Pos} {rb : Ss} (hi : N[i]? = some n) (hln : ns.lookup n = some .local) (hj : N[j]? = some y) (hly : ns.lookup y = some .local)
    (hnd : (n == ("__debug__" : Str)) = false) (hnc : (n == ("__classdict__" : Str)) = false) (hx : ns.lookup x = some .globalImplicit) (hxd : (x == ("__debug__" : Str)) = false) (hm : Γ.mg x = some (.ref (Γ.cad c))) (ck : Γ.clok (.own c) = true)
    (hb : ∀ W' Y, GdS Γ N ns W' k Y → JB Γ W' C Y body rb) :
    JS Γ W C X (.Try body [.ExceptHandler (some (.Name x np)) (some n) [.Assign [.Name y yp] (.Name n nq) ap] pos'] [] [] pos) (.tryAs rb (.own c) i j) := by
  have kl : X.env.kindOf n = some .local := by unfold Env.kindOf; rw [g.g.ns]; exact hln
  have kl2 : X.env.kindOf y = some .local := by unfold Env.kindOf; rw [g.g.ns]; exact hly
  refine ⟨fun pins s σ H R I q => (ps_try_hold (tb := fun W' => TS' Γ W' (wpSs Γ.G C rb)) g.st g.fr g.ex (by rw [g.g.hN]; exact g.g.nd) (by rw [g.g.hN]; exact hi) kl (by rw [g.g.hN]; exact hj) kl2 hnd hnc ⟨gl_of g.g hx, hxd, .inl (by rw [g.g.hmg]; exact hm)⟩ g.g.tk fun W' pn xe tk po => hb W' _ (gds_tr g tk po)).run pins s σ H R I ?_⟩
  have hN : N.length = X.N.length := by rw [g.g.hN]
  obtain ⟨σ0, M, D, sm, ss, hw, lk, en⟩ := q
  refine ⟨σ0, M, _, sm, ss, hw, fun e σ' M' s' H' cls d q sm' ss' st r => ?_, ⟨en.nx, en.rt, en.bk, en.ct⟩⟩
  obtain ⟨rc, rf, rk⟩ := r
  refine ⟨Γ.G.isOwn e.c (.own c), by rw [rc, g.g.hK]; exact K.exm _ _ rk.1 ck, fun hb hlen a Cc ec ha => ?_, fun hb => ?_, _, rc⟩
  · have q : if Γ.G.isOwn e.c (.own c) = true then ∀ a, M' a = none → D.nx (sets (sets σ' j (some (.ref a))) i none) (mup M' a (.exc e.c e.fs)) else D.ex e σ' M' := q
    rw [if_pos hb] at q
    rw [rc] at ec
    cases ec
    have tp := (ste_new (M := M') (m := .exc e.c e.fs) (o := ExH (Γ.cad e.c) a d) ha).tup sm'
    have sm2 : SimM Γ (mup M' a (.exc e.c e.fs)) (upd H' a (ExH (Γ.cad e.c) a d)) := sim_new sm' ha ⟨d, upd_same, XFs.step rf (ste_new ha) tp, rk⟩
    have hj' : j < s'.length := by rw [hlen, ← hN]; exact (List.getElem?_eq_some_iff.mp hj).1
    exact en.nx _ _ _ _ (q a (sm'.fresh ha)) sm2 (sims_hold (ss'.mono tp) (.ref a) hj') (st.trans (ste_new ha))
  · have q : if Γ.G.isOwn e.c (.own c) = true then ∀ a, M' a = none → D.nx (sets (sets σ' j (some (.ref a))) i none) (mup M' a (.exc e.c e.fs)) else D.ex e σ' M' := q
    rw [if_neg (by rw [hb]; decide)] at q
    exact lk e σ' M' s' H' cls d q sm' ss' st ⟨rc, rf, rk⟩
end
end MP
/-! isinstance; fields of errors; slices; methods. -/
namespace MP
open PySem L2
open PySem.Spec PyProof.Rows
section
variable {Γ : SG} {W : WX} {N : List Str} {ns : List (Str × NameKind)} {k : Nat} {X : Cx} {C : Calls} {M M' M1 : Mem} {H H' H1 : Hp}
/-- an error that is told, as an instance -/
theorem exc_inst {pins : List (Addr × Obj)} {σ : L2.St} {s : Shared} (I : L2.Inv X pins σ H s) {a Cc : Addr} {d : Option Addr} (e : H a = some (ExH Cc a d)) (hd : d = none ∨ ∃ dd fs, d = some dd ∧ H dd = some (.xd fs)) :
    ∃ oe od, PySem.W.InstAt s.heap a oe Cc od ∧ ∀ dd fs, d = some dd → H dd = some (.xd fs) → ∃ (o : Obj) (mA : Str → Option Value), od = some o ∧ (∀ name, PySem.W.lookIn name o = some (mA name)) ∧ ∀ f, RelO (fs.lookup f) (mA f) := by
  obtain ⟨⟨oe, vs, h1, ⟨hz1, hz2⟩, h3⟩, _, _⟩ := I.hok a _ e
  have no : PySem.W.notCls oe = true := by unfold PySem.W.notCls; rw [h3] <;> rfl
  rcases hd with hd | ⟨dd, fs, hd, hx⟩
  · subst hd
    exact ⟨oe, none, ⟨h1, hz1, no, by rw [hz2]; trivial⟩, fun dd fs z => by cases z⟩
  · subst hd
    obtain ⟨mA, hns, hr⟩ := I.hok dd _ hx
    obtain ⟨od, ho, hl⟩ := lookIn_ns hns
    refine ⟨oe, some od, ⟨h1, hz1, no, by rw [hz2]; exact ho⟩, fun dd' fs' z z2 => ?_⟩
    cases z
    rw [hx] at z2
    cases z2
    exact ⟨od, mA, rfl, hl, hr⟩
theorem XFs.d {fs : List (Str × Val)} {d : Option Addr} (x : XFs Γ M H fs d) : d = none ∨ ∃ dd fs, d = some dd ∧ H dd = some (.xd fs) := by
  rcases x with ⟨_, x⟩ | ⟨dd, fs', e, h, _⟩
  · exact .inl x
  · exact .inr ⟨dd, fs', e, h⟩
/-! ### fields of errors -/
abbrev rXf (Γ : SG) (f : Str) (te : TE) : TE := fun σ H Q => te σ H fun x H1 => ∃ a Cc dd fs v, x = .ref a ∧ H1 a = some (ExH Cc a (some dd)) ∧ H1 dd = some (.xd fs) ∧ EC Γ.K Cc ∧ PySem.W.findIn Γ.K (.ref Cc) f = some none ∧ fs.lookup f = some v ∧ Q v H1
theorem pe_xf {f : Str} {e : Expr} {te : TE} {pos : Pos} (hK : X.K = Γ.K) (he : PE X e te) (hb : attributeBase e f X.env (eval e X.env) = eval e X.env) : PE X (.Attribute e f pos) (rXf Γ f te) := by
  refine ⟨fun pins s σ H Q I h => ?_⟩
  refine attr_of hb (thn (he.run pins s σ H _ I h) fun u s1 hh => ?_)
  obtain ⟨x, H1, I1, rx, a, Cc, dd, fs, v, ex, ea, ed, T, nf, l, q⟩ := hh
  subst ex
  obtain rfl : u = Value.ref a := rx
  obtain ⟨oe, od, J, hh⟩ := exc_inst I1 ea (.inr ⟨dd, fs, rfl, ed⟩)
  obtain ⟨o, mA, eo, hl, hr⟩ := hh dd fs rfl ed
  subst eo
  obtain ⟨u, hu, ru⟩ := RelO.some_of (v := v) (o := mA f) (by rw [← l]; exact hr f)
  exact HandSPX.exc_get I1.kIn J (by rw [hK]; exact T.ga) (by rw [hK]; exact T.gt) (by rw [hK]; exact T.sub) (PySem.W.findObj_own (by rw [hK]; exact T.hd) (by rw [hK]; exact nf) rfl (by rw [hl, hu])) (handed_of ru) ⟨v, H1, I1.tok _, ru, q⟩
theorem frel_lookup {f : Str} : ∀ {l : List (Str × Val)} {m : List (Str × HV)} {v : Val}, FRel Γ H l m → l.lookup f = some v → ∃ u, m.lookup f = some u ∧ RV Γ H v u
  | [], [], _, _, h => by simp at h
  | [], _ :: _, _, h, _ => h.elim
  | _ :: _, [], _, h, _ => h.elim
  | (a, b) :: l, (c, d) :: m, v, ⟨h1, h2, h3⟩, h => by
    have h1 : a = c := h1
    subst h1
    rw [List.lookup_cons] at h ⊢
    cases e : f == a with
    | true => rw [e] at h; simp only [] at h ⊢; cases h; exact ⟨d, rfl, h2⟩
    | false => rw [e] at h; simp only [] at h ⊢; exact frel_lookup h3 h
theorem mem_keys {f : Str} {v : Val} : ∀ {l : List (Str × Val)}, l.lookup f = some v → f ∈ l.map (·.1)
  | [], h => by simp at h
  | (a, b) :: r, h => by
    rw [List.lookup_cons] at h
    cases e : f == a with
    | true => rw [List.map_cons]; exact List.mem_cons.mpr (.inl (by simpa using e))
    | false => rw [e] at h; rw [List.map_cons]; exact List.mem_cons_of_mem _ (mem_keys h)
theorem je_fld (g : Gd Γ N ns W k X) (K : GK Γ) {f : Str} {e : Expr} {a : E} {pos : Pos} (he : JE Γ W C X e a) (hb : notSup e = true) : JE Γ W C X (.Attribute e f pos) (.fld a f) := by
  refine pe_imp (pe_xf g.hK he (attrBase hb)) fun s H R q => ?_
  refine te_seq (wa := wpE Γ.G C a) (k := fun x σ M1 Q X => (match x with
      | .ref p => (match M1 p with | some (.exc _ fs) => (match fs.lookup f with | some v => Q v M1 | Option.none => False) | _ => False)
      | _ => False)) q fun x u σ M1 H1 Q Xk sm ss rx q lk kv => ?_
  cases x <;> try exact (show False from q).elim
  rename_i p
  cases rx
  replace q : (match M1 p with | some (.exc _ fs) => (match fs.lookup f with | some v => Q v M1 | Option.none => False) | _ => False) := q
  cases ep : M1 p with
  | none => simp only [ep] at q
  | some o =>
    simp only [ep] at q
    cases o <;> try exact (show False from q).elim
    rename_i c l
    simp only [] at q
    cases el : l.lookup f with
    | none => simp only [el] at q
    | some v =>
      simp only [el] at q
      obtain ⟨d, h1, h2, h3⟩ := sm.exc ep
      rcases h2 with ⟨h2, _⟩ | ⟨dd, fs', e1, e2, e3, e4⟩
      · subst h2; simp at el
      · subst e1
        obtain ⟨u', g1, g2⟩ := frel_lookup e4 el
        exact ⟨p, _, dd, fs', u', rfl, h1, e2, K.exc c h3.1, K.nf c f h3.1 (by rw [← h3.2]; exact mem_keys el), g1, kv.now sm q g2⟩
end
end MP
/-! isinstance; slices; methods of lists and texts. -/
namespace MP
open PySem L2
open PySem.Spec PyProof.Rows
section
variable {Γ : SG} {W : WX} {N : List Str} {ns : List (Str × NameKind)} {k : Nat} {X : Cx} {C : Calls} {M M' M1 : Mem} {H H' H1 : Hp}
abbrev rIsX (Γ : SG) : List HV → Hp → L2.VK → Prop := fun xs H Q => ∃ (a Cc : Addr) (d : Option Addr) (c : HV) (cv : Value) (b : Bool), xs = [.ref a, c] ∧ H a = some (ExH Cc a d) ∧ (d = none ∨ ∃ dd fs, d = some dd ∧ H dd = some (.xd fs)) ∧ EC Γ.K Cc ∧ ClsV c cv ∧ PySem.W.kitOne Γ.K (.ref Cc) cv = some b ∧ Q (.bl b) H
theorem call_isX (hK : X.K = Γ.K) (K : GK Γ) : CallR X (.builtin "isinstance") (rIsX Γ) := by
  intro pins s σ H xs us Q I r ⟨a, Cc, d, c, cv, b, e, ea, hd, T, hc, hk, q⟩
  subst e
  cases r with
  | cons rx rr =>
    cases rr with
    | cons rt rr =>
      cases rr
      cases rx
      obtain ⟨oe, od, J, _⟩ := exc_inst I ea hd
      have ec : ∀ u, RelV c u → u = cv := by
        intro u ru
        cases hc <;> exact ru
      have ec := ec _ rt
      subst ec
      refine PySem.W.kia_one (PySem.W.kitx_exc (od := od) (ox := oe) (by rw [hK]; exact T.cl) (by rw [hK]; exact T.ga) (by rw [hK]; exact T.gt) (by rw [hK]; exact T.sub) (by rw [hK]; exact T.ha) (by rw [hK]; exact K.hn) (by rw [hK]; exact K.htk) (by rw [hK]; exact T.hm)) I.kIn J (by rw [hK]; exact hk) (fun z => nomatch z) fun tk => ⟨.bl b, H, I.kept (t' := tk) fun _ _ z => z, rfl, q⟩
def clHV (Γ : SG) : Cl → HV
  | .ty n => .ty n
  | .own c => .ref (Γ.cad c)
theorem clV_rel (cl : Cl) : ClsV (clHV Γ cl) (clV Γ cl) := by cases cl; exact .ty _; exact .own _
abbrev rIsA (Γ : SG) : List HV → Hp → L2.VK → Prop := fun xs H Q => rIsi Γ.K xs H Q ∨ rIsX Γ xs H Q
theorem call_isA (hK : X.K = Γ.K) (K : GK Γ) : CallR X (.builtin "isinstance") (rIsA Γ) := by
  have h : CallR X (.builtin "isinstance") (rIsi X.K) := call_isi
  rw [hK] at h
  exact CallR.or h (call_isX hK K)
theorem is_ok (K : GK Γ) {x : Val} {u : HV} {cl : Cl} {b : Bool} {R : L2.VK} (sm : SimM Γ M H) (rx : RV Γ H x u) (hc : Γ.clok cl = true) (h : isB Γ.G M cl x = some b) (q : R (.bl b) H) : rIsA Γ [u, clHV Γ cl] H R := by
  have ty : ∀ {t : String} {u : HV}, TyOf Γ.K H u (.type t) → t ∈ ["NoneType", "bool", "int", "str", "tuple", "list", "dict"] → isTy t cl = b → rIsA Γ [u, clHV Γ cl] H R := fun {t u} h1 h2 h3 =>
    .inl ⟨_, _, _, _, _, rfl, clV_rel cl, .base h1, K.kitT t cl h2 hc, by rw [h3]; exact q⟩
  cases x with
  | none => cases rx; cases h; exact ty .non (by simp) rfl
  | bool c => cases rx; cases h; exact ty (.bl _) (by simp) rfl
  | int i => cases rx; cases h; exact ty (.int _) (by simp) rfl
  | str z => cases rx; cases h; exact ty (.str _) (by simp) rfl
  | tup vs => cases rx with | tup e r => cases h; exact ty (.tup e) (by simp) rfl
  | scr => cases h
  | ref a =>
    cases rx
    have h : (match M a with
      | some (.lst _) => some (isTy "list" cl)
      | some (.dct _) => some (isTy "dict" cl)
      | some (.exc k _) => some (Γ.G.isOwn k cl)
      | Option.none => Option.none) = some b := h
    cases ea : M a with
    | none => rw [ea] at h; cases h
    | some o =>
      rw [ea] at h
      cases o with
      | lst xs => obtain ⟨ys, e1, _⟩ := sm.lst ea; cases h; exact ty (.lst e1) (by simp) rfl
      | dct xs => obtain ⟨ys, e1, _⟩ := sm.dct ea; cases h; exact ty (.dK e1) (by simp) rfl
      | exc c fs =>
        obtain ⟨d, e1, e2, e3⟩ := sm.exc ea
        cases h
        exact .inr ⟨a, _, d, _, _, _, rfl, e1, e2.d, K.exc c e3.1, clV_rel cl, K.kitE c cl e3.1 hc, q⟩
theorem je_isi (g : Gd Γ N ns W k X) (K : GK Γ) {e ec : Expr} {a : E} {cl : Cl} {p pos : Pos} (hx : ns.lookup ("isinstance" : Str) = some .globalImplicit) (hm : Γ.mg ("isinstance" : Str) = none) (he : JE Γ W C X e a) (hs : notStar e = true)
    (hc : PE X ec (tC (clHV Γ cl))) (hs2 : notStar ec = true) (ck : Γ.clok cl = true) : JE Γ W C X (.Call (.Name "isinstance" p) [e, ec] [] pos) (.isi a [cl]) := by
  refine pe_imp (pe_callB (call_isA g.hK K) (gl_of g hx) (by rw [g.hmg]; exact hm) (by decide +kernel) (pa_cons he (pa_cons hc pa_nil (starEach_ns hs2)) (starEach_ns hs)) (by decide) (by decide) (starEach_ns hs) (starEach_all (show noStars [ec] = true by unfold noStars; simp [hs2]))) fun s H R q => ?_
  refine te_seq (wa := wpE Γ.G C a) (k := fun x σ M1 Q X => match isCl Γ.G M1 x [cl] with | some b => Q (.bool b) M1 | none => False) q fun x u σ M1 H1 Q Xk sm ss rx q lk kv => ?_
  cases eb : isB Γ.G M1 cl x with
  | none => simp only [isCl, eb] at q
  | some b =>
    simp only [isCl, eb, Bool.or_false] at q
    exact is_ok K sm rx ck eb (kv.now sm q (.bl _))
/-! ### slices -/
def OEx : Option Expr → E → Bool
  | none, .con .none => true
  | _, _ => false
abbrev rSlAny (Γ : SG) : HV → Option Int → Option Int → Hp → L2.VK → Prop := fun x lo hi H Q => rSlL Γ.K x lo hi H Q ∨ (rSlA Γ.K x lo hi H Q ∨ rSlS x lo hi H Q)
theorem sl_any (hK : X.K = Γ.K) : SlR X (rSlAny Γ) := by
  unfold rSlAny
  rw [← hK]
  exact sl_list.or (sl_tupA.or sl_str)
/-- a slice's part as a term -/
def TO' (Γ : SG) (W : WX) (w : WE) : TO := fun s H R => ∃ σ M Q X, SimM Γ M H ∧ SimS Γ H σ s ∧ w σ M Q X ∧ LkE Γ W X M s H ∧ ∀ v M' H', Q v M' → SimM Γ M' H' → Ste M H M' H' → ∃ o, part v = some o ∧ R o H'
theorem jo_none : PO X none (TO' Γ W (wpE Γ.G C (.con .none))) := by
  refine ⟨fun pins s σ H R I ⟨σ0, M, Q, Xk, sm, ss, hw, lk, kv⟩ => po_none.run pins s σ H R I ?_⟩
  obtain ⟨o, e, q⟩ := kv .none M H hw sm .refl
  cases e
  exact q
theorem jo_some {e : Expr} {a : E} (h : JE Γ W C X e a) : PO X (some e) (TO' Γ W (wpE Γ.G C a)) := by
  refine ⟨fun pins s σ H R I ⟨σ0, M, Q, Xk, sm, ss, hw, lk, kv⟩ => ?_⟩
  rw [evalPart_some]
  refine thn (h.run pins s σ H (fun x H1 => (x = .non ∧ R none H1) ∨ ∃ i, x = .int i ∧ R (some i) H1) I ⟨σ0, M, Q, Xk, sm, ss, hw, lk, fun v M' u H' q r sm' st => ?_⟩) fun u s1 ⟨x, H1, I1, r1, q1⟩ => ?_
  · obtain ⟨o, e, q'⟩ := kv v M' H' q sm' st
    cases v <;> first | (cases e; done) | skip
    · cases r; cases e; exact .inl ⟨rfl, q'⟩
    · cases r; cases e; exact .inr ⟨_, rfl, q'⟩
  · rcases q1 with ⟨rfl, q⟩ | ⟨i, rfl, q⟩
    · obtain rfl : u = Value.none := r1
      exact ⟨none, H1, I1, .none, q⟩
    · obtain ⟨t, rfl⟩ := r1
      exact ⟨some i, H1, I1, .int i t, q⟩
theorem cutV_rel {xs : List Val} {ys : List HV} (r : RVs Γ H xs ys) (l h : Option Int) : RVs Γ H (cutL xs l h) (cutV ys l h) := by
  unfold cutL cutV
  rw [r.length]
  exact (r.drop _).take _
theorem je_slice (g : Gd Γ N ns W k X) {e : Expr} {lo hi : Option Expr} {a l h : E} {pos p2 : Pos} (he : JE Γ W C X e a) (hl : PO X lo (TO' Γ W (wpE Γ.G C l))) (hh : PO X hi (TO' Γ W (wpE Γ.G C h))) : JE Γ W C X (.Subscript e (.Slice lo hi none p2) pos) (.slice a l h) := by
  refine pe_imp (pe_slice (sl_any g.hK) he hl hh) fun s H R q => ?_
  refine te_seq (wa := wpE Γ.G C a) (k := fun x σ M1 Q X => wpE Γ.G C l σ M1 (fun lv M2 => (match part lv with | some l => wpE Γ.G C h σ M2 (fun hv M3 => (match part hv with | some h => semSlice x l h M3 Q | Option.none => False)) X | Option.none => False)) X) q fun x u σ M1 H1 Q Xk sm ss rx0 q1 lk kv0 => ?_
  refine ⟨σ, M1, _, Xk, sm, ss, q1, lk, fun lv M2 H2 q2 sm2 st2 => ?_⟩
  cases el : part lv with
  | none => simp only [el] at q2
  | some lo =>
    simp only [el] at q2
    refine ⟨lo, rfl, σ, M2, _, Xk, sm2, ss.mono (st2.tup sm), q2, lk.step st2, fun hv M3 H3 q sm3 st3 => ?_⟩
    cases eh : part hv with
    | none => simp only [eh] at q
    | some hi =>
      simp only [eh] at q
      refine ⟨hi, rfl, ?_⟩
      have rx := (rx0.mono (st2.tup sm)).mono (st3.tup sm2)
      have kv := (kv0.step st2).step st3
      cases x <;> try exact (show False from q).elim
      · cases rx; exact .inr (.inr ⟨_, rfl, q.1, kv.now sm3 q.2 (.str _)⟩)
      · rename_i xs
        cases rx with
        | tup e r =>
          rename_i a ys
          refine .inr (.inl ⟨a, ys, rfl, SqT.of e, fun hw => ?_, fun _ => tup_ok sm3 (cutV_rel r lo hi) q kv⟩)
          have : cutL xs lo hi = xs := by
            unfold cutL
            rw [r.length, hw.1, hw.2, List.drop_zero, Nat.sub_zero, ← r.length, List.take_length]
          have q4 : Q (.tup (cutL xs lo hi)) M3 := q
          rw [this] at q4
          exact kv.now sm3 q4 (.tup e r)
      · rename_i b
        cases rx
        replace q : (match M3 b with | some (.lst xs) => newL (cutL xs lo hi) M3 Q | _ => False) := q
        cases eb : M3 b with
        | none => simp only [eb] at q
        | some o =>
          simp only [eb] at q
          cases o <;> try exact (show False from q).elim
          obtain ⟨ys, e1, r1⟩ := sm3.lst eb
          exact .inl ⟨_, _, rfl, SqL.of e1, newL_ok sm3 (cutV_rel r1 lo hi) q kv⟩
end
end MP
/-! A def and its promise; str and repr of data; methods. -/
namespace MP
open PySem L2
open PySem.Spec PyProof.Rows
section
variable {P : Program} {w : World} {K : PySem.W.Frag} {mg : Str → Option Value} {base : Heap}
theorem deeper_guards {A : Around} {env : Env} : (A.deeper env).guards = A.guards := rfl
/-- what the end of a body says of the call -/
theorem body_end {N : List Str} {qual : Str} {scope : Scope} {f : Addr} {cdv : Value} {A : Around} {outer : List Env} {s : Shared} {H : Hp} {Q : L2.VK} {E : L2.XK} : ∀ fl s', SP (cxOf (L2.CX P w) P w K mg base N qual scope f cdv A outer s H E) [] { nx := fun _ H' => Q .non H', rt := Q } fl s' →
    (match fl with | .ret v => CE outer P w H s Q v s' | .next => CE outer P w H s Q .none s' | _ => False)
  | .ret u, s', ⟨v, σ', H', J, rv, q⟩ => ⟨v, H', J.os, J.bare, J.base, J.hok, rv, q⟩
  | .next, s', ⟨σ', H', J, q⟩ => ⟨.non, H', J.os, J.bare, J.base, J.hok, rfl, q⟩
  | .brk, _, ⟨_, _, _, q⟩ => q
  | .cont, _, ⟨_, _, _, q⟩ => q
theorem fn_g {x q : Str} {st : Stmt} {a : Addr} {fd : FuncData} {N ps : List Str} {k : Nat} {sp : Sp} (F : Fun K x q st a fd) (S : FnScope N ps (defScope st)) (len : ∀ vs H Q E, sp vs H Q E → vs.length = ps.length)
    (hbody : ∀ (cdv : Value) (A : Around) (outer : List Env) (s : Shared) (H : Hp) (vs : List HV) (Q : L2.VK) (E : L2.XK), A.guards = some [] → Room k (A.deeper (envOfC q (defScope st) s.heap.objs.size a cdv)) → sp vs H Q E →
      ∃ t, PSs (cxOf (L2.CX P w) P w K mg base N q (defScope st) a cdv A outer s H E) (defBody st) t ∧ t { nx := fun _ H' => Q .non H', rt := Q } (start N vs) H) : FnG P w K mg base (k + 1) a fd ps sp := by
  obtain ⟨oc, od, kV, doc, pm, an, cdv, ct, osl, rfl, lk, hcd⟩ := F.ex
  refine ⟨len, fun A outer s H us vs Q E gA hr e0 hb r hsp => ?_⟩
  have keep := fun b o e => (e0.bs b o e).1
  have KX : K.In s.heap := e0.mod.kin.keeps keep
  have hpar : ∀ y ∈ ps.zip us, (defScope st).names.lookup y.1 = some .local ∨ ((defScope st).names.lookup y.1 = some .cell ∧ ((cellsFrom (s.heap.objs.size + 1) (defScope st).names []).lookup y.1).isSome = true) := fun y hy =>
    (S.par y.1 (List.of_mem_zip (a := y.1) (b := y.2) hy).1).imp id fun z => ⟨z, PySem.W.cellsFrom_some _ _ _ (.inl z)⟩
  refine codeAny_call_function hr.depth (KX _ _ lk) rfl S.co S.gen rfl (PySem.W.codeRec_of KX hcd) (hb _ _ _ _ ?_)
  refine wpAny_newFunctionEnv_cells S.kind hpar fun env he s1 x => ?_
  subst he
  obtain ⟨t, ht, hq⟩ := hbody cdv A outer s H vs Q E gA (hr.deeper _) hsp
  have I := inv_start (CX := L2.CX P w) (qual := q) (f := a) (cd := cdv) (E := E) S hr.hd e0 (len _ _ _ _ hsp) r x
  refine ⟨(e0.mod.nolimit.keeps keep).keeps x.toInCall.keep, codeAny_func (wpAny_mono (ht.run [] s1 _ H _ I hq) (fun fl s' hs => ?_) fun e s' hs => hs)⟩
  have z := body_end fl s' hs
  cases fl <;> first | exact z | exact z.elim
/-! ### what is known of a def's body, from its text -/
theorem gd_def {Γ : SG} {N : List Str} {qual : Str} {scope : Scope} {f : Addr} {cdv : Value} {A : Around} {outer : List Env} {s : Shared} {H : Hp} {E : L2.XK} {k : Nat} (hk : scope.kind = .function) (nd : N.Nodup) (gA : A.guards = some []) (hr : Room k (A.deeper (envOfC qual scope s.heap.objs.size f cdv))) :
    GdS Γ N scope.names (fun cls d _ H => E cls d H) k (cxOf (L2.CX Γ.P Γ.w) Γ.P Γ.w Γ.K Γ.mg Γ.base N qual scope f cdv A outer s H E) where
  g := { hP := rfl, hw := rfl, hK := rfl, hmg := rfl, hbase := rfl, hN := rfl, nd := nd, ns := rfl, kd := hk, calm := rfl, tk := takes_of rfl rfl rfl rfl, room := hr, gA := gA }
  po := passes_of rfl
  st := rfl
  fr := rfl
  ex := rfl
  fn := fun x _ => .inl rfl
theorem gets_start {n : Nat} {vs : List Val} : ∀ {i : Nat} {v : Val}, gets (startS n vs) i = some v → vs[i]? = some v := by
  unfold startS
  have hr : ∀ m i, gets (List.replicate m (none : Option Val)) i = none := by
    intro m
    induction m with
    | zero => intro i; rfl
    | succ m ih => intro i; cases i with
      | zero => rfl
      | succ i => exact ih i
  generalize n - vs.length = m
  induction vs with
  | nil => intro i v h; simp only [List.map_nil, List.nil_append] at h; rw [hr] at h; cases h
  | cons x r ih =>
    intro i v h
    cases i with
    | zero => exact h
    | succ i => exact ih h
theorem sims_start {Γ : SG} {H : Hp} {N : List Str} {vs : List Val} {us : List HV} (r : RVs Γ H vs us) : SimS Γ H (startS N.length vs) (start N us) := fun i v h => by
  obtain ⟨u, h1, h2⟩ := r.get (gets_start h)
  refine ⟨u, ?_, h2⟩
  unfold L2.start
  rw [List.getElem?_append_left (by rw [List.length_map]; exact (List.getElem?_eq_some_iff.mp h1).1), List.getElem?_map, h1]
  rfl
/-- a def keeps the promise that its text makes -/
theorem ok_def {Γ : SG} {C : Calls} {tbl : Nat → Option Fn} {d k f : Nat} {x q : Str} {st : Stmt} {a : Addr} {fd : FuncData} {N ps : List Str} {fn : Fn} (F : Fun Γ.K x q st a fd) (S : FnScope N ps (defScope st)) (ht : tbl f = some fn) (hn : fn.nv = N.length) (hp : fn.np = ps.length)
    (hbody : ∀ W X, GdS Γ N (defScope st).names W k X → JB Γ W (wpC Γ.G tbl d) X (defBody st) fn.body) : FnG Γ.P Γ.w Γ.K Γ.mg Γ.base (k + 1) a fd ps (spOf Γ (wpC Γ.G tbl (d + 1)) f) := by
  have op : ∀ {args M Q X}, wpC Γ.G tbl (d + 1) f args M Q X → args.length = fn.np ∧ wpSs Γ.G (wpC Γ.G tbl d) fn.body ⟨fun _ M' => Q .none M', Q, fun _ _ => False, fun _ _ => False, fun e _ M' => X e M'⟩ (startS fn.nv args) M := fun {args M Q X} h => by
    have h : (match tbl f with
      | some fn => args.length = fn.np ∧ wpSs Γ.G (wpC Γ.G tbl d) fn.body ⟨fun _ M' => Q .none M', Q, fun _ _ => False, fun _ _ => False, fun e _ M' => X e M'⟩ (startS fn.nv args) M
      | none => False) := h
    rw [ht] at h
    exact h
  refine fn_g F S (fun vs H Q E ⟨args, M, Qm, Xm, sm, r, h, _⟩ => ?_) fun cdv A outer s H vs Q E gA hr ⟨args, M, Qm, Xm, sm, r, h, kv, lk⟩ => ?_
  · rw [← r.length, (op h).1, hp]
  · refine ⟨_, hbody _ _ (gd_def S.kind S.nd gA hr), ?_⟩
    obtain ⟨h1, h2⟩ := op h
    rw [hn] at h2
    refine ⟨_, M, _, sm, sims_start r, h2, fun e σ' M' s' H' cls d' q sm' ss' st' r' => lk e M' H' cls d' q sm' st' r', ⟨fun σ' M' s' H' q sm' ss' st' => kv _ M' _ H' q .non sm' st', kv, fun _ _ _ _ q => q.elim, fun _ _ _ _ q => q.elim⟩⟩
end
end MP
/-! Methods of lists and texts; str and repr of data. -/
namespace MP
open PySem L2
open PySem.Spec PyProof.Rows
section
variable {Γ : SG} {W : WX} {N : List Str} {ns : List (Str × NameKind)} {k : Nat} {X : Cx} {C : Calls} {M M' M1 : Mem} {H H' H1 : Hp}
theorem wp_args1 {a b : E} {σ : Sg} {M : Mem} {Q : List Val → Mem → Prop} {Xk : XK} (h : wpEs Γ.G C (.cons b .nil) σ M Q Xk) : wpE Γ.G C b σ M (fun y M2 => Q [y] M2) Xk := h
theorem few1 {e : Expr} (hs : notStar e = true) {env : Env} {pos : Pos} : ((backTo pos (starEach [e] env)).all (fun x => !x.1) && (backToKw pos (keywordEach [] env)).all (fun x => x.1.isSome) && decide ([e].length + ([] : List Keyword).length + (if ([] : List Keyword).isEmpty then 0 else 1) < 30)) = true := by
  rw [starEach_ns hs]
  rfl
/-- a list's method of one argument -/
theorem je_lm1 {m : Mth} {id : String} {name : Str} {r : HV → List HV → Hp → L2.VK → Prop} (g : Gd Γ N ns W k X) {o e : Expr} {a b : E} {apos pos : Pos} (slot : Slot "list" name id) (ty : typeOf (.builtin id) = pure (.type "method_descriptor")) (hm : MtR X id r)
    (ho : JE Γ W C X o a) (he : JE Γ W C X e b) (hb : notSup o = true) (hl : (apos.endLine == pos.line) = true) (hs : notStar e = true) (hi : ∀ x M, isM m x M → ∃ p xs, x = .ref p ∧ M p = some (.lst xs))
    (ok : ∀ x y M H u v Q R, SimM Γ M H → RV Γ H x u → RV Γ H y v → semM m x [y] M Q → kV Γ M H Q R → r u [v] H R) : JE Γ W C X (.Call (.Attribute o name apos) [e] [] pos) (.meth m a (.cons b .nil)) := by
  refine pe_imp (pe_bm PySem.F.plainAttrs_list slot ty hm ho (ja_cons he ja_nil hs) (attrBase hb) (few1 hs) hl (starEach_ns hs) (starEach_all rfl)) fun s H R q => ?_
  unfold tBM
  refine te_seq (wa := wpE Γ.G C a) (k := fun x σ M1 Q X => isM m x M1 ∧ wpEs Γ.G C (.cons b .nil) σ M1 (fun vs M2 => semM m x vs M2 Q) X) q fun x u σ M1 H1 Q Xk sm ss rx q lk kv => ?_
  obtain ⟨h1, h2⟩ := q
  obtain ⟨p, xs, e1, e2⟩ := hi x M1 h1
  subst e1
  cases rx
  obtain ⟨ys, e3, r3⟩ := sm.lst e2
  refine ⟨.inl ⟨rfl, ys, by rw [g.hK]; exact SqL.of e3⟩, σ, M1, fun vs M2 => ∃ y, vs = [y] ∧ semM m (.ref p) [y] M2 Q, Xk, sm, ss, ?_, lk, fun vs M2 us H2 ⟨y, e, q⟩ rv sm2 st2 => ?_⟩
  · show wpE Γ.G C b σ M1 (fun y M2 => ∃ z, [y] = [z] ∧ semM m (.ref p) [z] M2 Q) Xk
    have e : (fun (y : Val) (M2 : Mem) => ∃ z, [y] = [z] ∧ semM m (.ref p) [z] M2 Q) = fun y M2 => semM m (.ref p) [y] M2 Q := by
      funext y M2
      exact propext ⟨fun ⟨z, e, q⟩ => by cases e; exact q, fun q => ⟨y, rfl, q⟩⟩
    rw [e]
    exact h2
  · subst e
    obtain ⟨v, rfl, r1⟩ := rv.one
    exact ok _ y M2 H2 _ v Q R sm2 (.ref p) r1 q (kv.step st2)
theorem je_append (g : Gd Γ N ns W k X) {o e : Expr} {a b : E} {apos pos : Pos} (ho : JE Γ W C X o a) (he : JE Γ W C X e b) (hb : notSup o = true) (hl : (apos.endLine == pos.line) = true) (hs : notStar e = true) : JE Γ W C X (.Call (.Attribute o "append" apos) [e] [] pos) (.meth .append a (.cons b .nil)) := by
  refine je_lm1 g PySem.F.slot_list_append PySem.F.type_list_append mt_append ho he hb hl hs (fun x M h => ?_) fun x y M H u v Q R sm rx ry h kv => ?_
  · cases x <;> first | exact h.elim | (obtain ⟨xs, e⟩ := h; exact ⟨_, xs, rfl, e⟩)
  · cases x <;> try exact (show False from h).elim
    rename_i p
    cases rx
    replace h : (match M p with | some (.lst xs) => xs.length < sizeLine ∧ Q .none (mup M p (.lst (xs ++ [y]))) | _ => False) := h
    cases ep : M p with
    | none => simp only [ep] at h
    | some o =>
      simp only [ep] at h
      cases o <;> try exact (show False from h).elim
      obtain ⟨ys, e1, r1⟩ := sm.lst ep
      refine ⟨p, ys, v, rfl, rfl, e1, by rw [← r1.length]; exact h.1, ?_⟩
      exact kv .none _ .non _ h.2 .non (sim_put sm ep ⟨_, upd_same, (r1.append (.cons ry .nil)).mono ((ste_put (m := .lst []) ep).tup sm)⟩) (ste_put ep)
theorem RVs.eraseIdx : ∀ {xs : List Val} {ys : List HV} (i : Nat), RVs Γ H xs ys → RVs Γ H (xs.eraseIdx i) (ys.eraseIdx i)
  | _, _, _, .nil => .nil
  | _, _, 0, .cons _ t => t
  | _, _, i + 1, .cons r t => .cons r (RVs.eraseIdx i t)
theorem je_index (g : Gd Γ N ns W k X) {o e : Expr} {a b : E} {apos pos : Pos} (ho : JE Γ W C X o a) (he : JE Γ W C X e b) (hb : notSup o = true) (hl : (apos.endLine == pos.line) = true) (hs : notStar e = true) : JE Γ W C X (.Call (.Attribute o "index" apos) [e] [] pos) (.meth .index a (.cons b .nil)) := by
  have hu : X.A.units + 65 < cLine := by have := g.room.un; omega
  refine je_lm1 g PySem.F.slot_list_index PySem.F.type_list_index (mt_indexD hu) ho he hb hl hs (fun x M h => ?_) fun x y M H u v Q R sm rx ry h kv => ?_
  · cases x <;> first | exact h.elim | (obtain ⟨xs, e⟩ := h; exact ⟨_, xs, rfl, e⟩)
  · cases x <;> try exact (show False from h).elim
    rename_i p
    obtain ⟨d, ds, j, z, h1, h2, h3, h4, h5, h6, h7, h8⟩ := h
    have rx' := rx
    cases rx'
    exact ⟨p, v, d, ds, j, z, rfl, rfl, by rw [g.hK]; exact h1.dp sm rx, by rw [g.hK]; exact h2.dp sm ry, h3, h4, h5, h6, h7, kv.now sm h8 (.int _)⟩
theorem RVs.strs : ∀ {ys : List Str}, RVs Γ H (ys.map Val.str) (ys.map L2.V.str)
  | [] => .nil
  | _ :: _ => .cons (.str _) RVs.strs
theorem textsOf_rv : ∀ {xs : List Val} {us : List HV} {ys : List Str}, textsOf xs = some ys → RVs Γ H xs us → us = ys.map L2.V.str
  | [], _, ys, h, .nil => by cases h; rfl
  | x :: r, _, ys, h, .cons rx rr => by
    cases x <;> try (cases h; done)
    rename_i z
    have h : (textsOf r).map (z :: ·) = some ys := h
    cases e : textsOf r with
    | none => rw [e] at h; cases h
    | some zs =>
      rw [e] at h
      cases h
      cases rx
      rw [textsOf_rv e rr]
      rfl
/-- a text's method of one argument -/
theorem je_sm1 {m : Mth} {id : String} {name : Str} {r : HV → List HV → Hp → L2.VK → Prop} (g : Gd Γ N ns W k X) {o e : Expr} {a b : E} {apos pos : Pos} (slot : Slot "str" name id) (ty : typeOf (.builtin id) = pure (.type "method_descriptor")) (hm : MtR X id r)
    (ho : JE Γ W C X o a) (he : JE Γ W C X e b) (hb : notSup o = true) (hl : (apos.endLine == pos.line) = true) (hs : notStar e = true) (hi : ∀ x M, isM m x M → ∃ z, x = .str z)
    (ok : ∀ x y M H u v Q R, SimM Γ M H → RV Γ H x u → RV Γ H y v → semM m x [y] M Q → kV Γ M H Q R → r u [v] H R) : JE Γ W C X (.Call (.Attribute o name apos) [e] [] pos) (.meth m a (.cons b .nil)) := by
  refine pe_imp (pe_m1 slot ty hm ho he (by rw [starEach_ns hs]; rfl) (attrBase hb) hl) fun s H R q => ?_
  unfold tM1
  refine te_seq (wa := wpE Γ.G C a) (k := fun x σ M1 Q X => isM m x M1 ∧ wpEs Γ.G C (.cons b .nil) σ M1 (fun vs M2 => semM m x vs M2 Q) X) q fun x u σ M1 H1 Q Xk sm ss rx q lk kv => ?_
  obtain ⟨h1, h2⟩ := q
  obtain ⟨z, e1⟩ := hi x M1 h1
  subst e1
  have rx' := rx
  cases rx'
  exact ⟨⟨z, rfl⟩, σ, M1, _, Xk, sm, ss, (show wpE Γ.G C b σ M1 (fun y M2 => semM m (.str z) [y] M2 Q) Xk from h2), lk, fun y M2 v H2 q2 ry sm2 st2 => ok _ y M2 H2 _ v Q R sm2 (.str z) ry q2 (kv.step st2)⟩
theorem je_split (g : Gd Γ N ns W k X) {o e : Expr} {a b : E} {apos pos : Pos} (ho : JE Γ W C X o a) (he : JE Γ W C X e b) (hb : notSup o = true) (hl : (apos.endLine == pos.line) = true) (hs : notStar e = true) : JE Γ W C X (.Call (.Attribute o "split" apos) [e] [] pos) (.meth .split a (.cons b .nil)) := by
  refine je_sm1 g PySem.F.slot_str_split PySem.F.type_str_split mt_split ho he hb hl hs (fun x M h => ?_) fun x y M H u v Q R sm rx ry h kv => ?_
  · cases x <;> first | exact h.elim | exact ⟨_, rfl⟩
  · cases x <;> cases y <;> try exact (show False from h).elim
    cases rx; cases ry
    obtain ⟨h1, h2, h3⟩ := h
    exact ⟨_, _, rfl, rfl, h1, h2, newL_ok sm RVs.strs h3 kv⟩
theorem je_join (g : Gd Γ N ns W k X) {o e : Expr} {a b : E} {apos pos : Pos} (ho : JE Γ W C X o a) (he : JE Γ W C X e b) (hb : notSup o = true) (hl : (apos.endLine == pos.line) = true) (hs : notStar e = true) : JE Γ W C X (.Call (.Attribute o "join" apos) [e] [] pos) (.meth .join a (.cons b .nil)) := by
  refine je_sm1 g PySem.F.slot_str_join PySem.F.type_str_join mt_join ho he hb hl hs (fun x M h => ?_) fun x y M H u v Q R sm rx ry h kv => ?_
  · cases x <;> first | exact h.elim | exact ⟨_, rfl⟩
  · cases x <;> cases y <;> try exact (show False from h).elim
    rename_i z p
    cases rx; cases ry
    replace h : (match M p with | some (.lst xs) => (match textsOf xs with | some ys => (ys.map (·.length)).sum + ys.length * z.length ≤ 16777216 ∧ Q (.str (Txt.join z ys)) M | Option.none => False) | _ => False) := h
    cases ep : M p with
    | none => simp only [ep] at h
    | some o =>
      simp only [ep] at h
      cases o <;> try exact (show False from h).elim
      rename_i xs
      cases et : textsOf xs with
      | none => simp only [et] at h
      | some ys =>
        simp only [et] at h
        obtain ⟨us, e1, r1⟩ := sm.lst ep
        rw [textsOf_rv et r1] at e1
        exact ⟨z, p, ys, rfl, rfl, .inl (by rw [g.hK]; exact SqL.of e1), h.1, kv.now sm h.2 (.str _)⟩
/-! ### str(x) -/
abbrev rStrD (Γ : SG) : List HV → Hp → L2.VK → Prop := fun xs H Q => (∃ z, xs = [.str z] ∧ Q (.str z) H) ∨ (xs = [.non] ∧ Q (.str "None") H) ∨ ∃ (a : Addr) (d : PyData), xs = [.ref a] ∧ Dp Γ.K H (.ref a) d ∧ PyData.showable d = true ∧ PyData.hasDict d = false ∧ d.depth ≤ 60 ∧ d.shown.length ≤ sizeLine ∧ Q (.str d.shown) H
theorem call_strD (g : Gd Γ N ns W k X) : CallR X (.type "str") (rStrD Γ) := by
  intro pins s σ H xs us Q I r h
  rcases h with ⟨z, e, q⟩ | ⟨e, q⟩ | ⟨a, d, e, hd, h1, h2, h3, h4, q⟩
  · subst e
    obtain ⟨u, rfl, t, rfl⟩ := vals1 r
    exact PySem.P.str_of_str ⟨.str z, H, I, ⟨_, rfl⟩, q⟩
  · subst e
    obtain ⟨u, rfl, hu⟩ := vals1 r
    obtain rfl : u = Value.none := hu
    exact PySem.P.str_of_none ⟨.str "None", H, I.tok _, ⟨_, rfl⟩, q⟩
  · subst e
    obtain ⟨u, rfl, hu⟩ := vals1 r
    rw [← g.hK] at hd
    obtain ⟨as, rd⟩ := Dp.reads I d (.ref a) u hd hu
    obtain rfl : u = Value.ref a := hu
    refine str_of_reads rd h1 (PyData.noDict_hsm h2) g.gA (by have := g.room.un; omega) (fun _ _ z => z) (fun h' u tk kk => ?_) h4
    exact ⟨.str d.shown, H, I.kept kk, ⟨_, rfl⟩, q⟩
theorem ok_str : C1ok Γ .str_ (rStrD Γ) := by
  intro x M H u Q R sm rx h kv
  cases x with
  | str z => cases rx; exact .inl ⟨z, rfl, kv.now sm h (.str _)⟩
  | none => cases rx; exact .inr (.inl ⟨rfl, kv.now sm h (.str _)⟩)
  | ref a =>
    obtain ⟨d, h1, h2, h3, h4, h5, _, h6⟩ := h
    have hd := h1.dp sm rx
    cases rx
    exact .inr (.inr ⟨a, d, rfl, hd, h2, h3, h4, h5, kv.now sm h6 (.str _)⟩)
  | tup vs =>
    obtain ⟨d, h1, h2, h3, h4, h5, _, h6⟩ := h
    have hd := h1.dp sm rx
    cases rx with
    | tup e r => exact .inr (.inr ⟨_, d, rfl, hd, h2, h3, h4, h5, kv.now sm h6 (.str _)⟩)
  | bool b => obtain ⟨_, _, _, _, _, _, h, _⟩ := h; rcases h with ⟨_, h⟩ | ⟨_, h⟩ <;> cases h
  | int b => obtain ⟨_, _, _, _, _, _, h, _⟩ := h; rcases h with ⟨_, h⟩ | ⟨_, h⟩ <;> cases h
  | scr => obtain ⟨_, _, _, _, _, _, h, _⟩ := h; rcases h with ⟨_, h⟩ | ⟨_, h⟩ <;> cases h
theorem je_str (g : Gd Γ N ns W k X) {e : Expr} {a : E} {p pos : Pos} (hx : ns.lookup ("str" : Str) = some .globalImplicit) (hm : Γ.mg ("str" : Str) = none) (ha : JE Γ W C X e a) (hs : notStar e = true) : JE Γ W C X (.Call (.Name "str" p) [e] [] pos) (.op1 .str_ a) :=
  je_bt g (call_strD g) ok_str hx hm (by decide +kernel) (by decide) (by decide) ha hs
end
end MP
/-! The last terms: comparisons as tests, None, signs, built-ins by name. -/
namespace MP
open PySem L2
open PySem.Spec PyProof.Rows
section
variable {Γ : SG} {W : WX} {N : List Str} {ns : List (Str × NameKind)} {k : Nat} {X : Cx} {C : Calls} {M M' M1 : Mem} {H H' H1 : Hp}
theorem wpE_mono_op2 {o : Op2} (hb : Bool2 o) {a b : E} {σ : Sg} {M : Mem} {Q : VK} {Xk : XK} (mono : ∀ (a : E) (σ : Sg) (M : Mem) (Q Q' : VK) (Xk : XK), (∀ v M', Q v M' → Q' v M') → wpE Γ.G C a σ M Q Xk → wpE Γ.G C a σ M Q' Xk) (h : wpE Γ.G C (.op2 o a b) σ M Q Xk) :
    wpE Γ.G C (.op2 o a b) σ M (fun v M' => (∃ c, v = .bool c) ∧ Q v M') Xk :=
  mono a σ M _ _ Xk (fun x M1 q => mono b σ M1 _ _ Xk (fun y M2 q => hb _ _ _ _ _ q) q) h
/-- a comparison as a test -/
theorem jt_cmp {o : Op2} {op : CmpOp} {r : R2} {a b : E} {ea eb : Expr} {pos : Pos} (ok : R2ok Γ o r) (ho : OpR X (compareOp op) r) (hb2 : Bool2 o) (hm : behindInMarks op eb = false) (ha : JE Γ W C X ea a) (hb : JE Γ W C X eb b) : JT Γ W C X (.Compare ea [op] [eb] pos) (.op2 o a b) := by
  refine pt_imp (pt_cmpR ho ha hb hm) fun s H R q => ?_
  obtain ⟨σ, M, Q, Xk, sm, ss, hw, lk, kv⟩ := q
  -- the two sides, then the comparison's answer
  refine ⟨σ, M, _, Xk, sm, ss, (show wpE Γ.G C a σ M (fun x M1 => wpE Γ.G C b σ M1 (fun y M2 => sem2 Γ.G o x y M2 Q) Xk) Xk from hw), lk, fun x M1 u H1 q rx sm1 st => ?_⟩
  refine ⟨σ, M1, _, Xk, sm1, ss.mono (st.tup sm), q, lk.step st, fun y M2 v H2 q2 ry sm2 st2 => ?_⟩
  refine ok x y M2 H2 u v _ _ sm2 (rx.mono (st2.tup sm1)) ry (hb2 _ _ _ _ _ q2) fun z M3 w H3 ⟨⟨c, e⟩, q3⟩ rz sm3 st3 => ?_
  subst e
  cases rz
  obtain ⟨c', e', q'⟩ := kv _ M3 H3 q3 sm3 ((st.trans st2).trans st3)
  cases e'
  exact ⟨c, rfl, q'⟩
theorem jt_chain {o o' : Op2} {op op' : CmpOp} {r r' : R2} {a b c : E} {ea eb ec : Expr} {pos : Pos} (ok : R2ok Γ o r) (ok' : R2ok Γ o' r')
    (ha : JE Γ W C X ea a) (hb : JE Γ W C X eb b) (hc : JE Γ W C X ec c) (hb2 : Bool2 o) (hb2' : Bool2 o')
    (mk : ∀ {ta tb tc : TE}, PE X ea ta → PE X eb tb → PE X ec tc → PT X (.Compare ea [op, op'] [eb, ec] pos) (tTest (tChain r r' ta tb tc))) : JT Γ W C X (.Compare ea [op, op'] [eb, ec] pos) (.chain o o' a b c) := by
  refine pt_imp (mk ha hb hc) fun s H R q => ?_
  obtain ⟨σ, M, Q, Xk, sm, ss, hw, lk, kv⟩ := q
  refine ⟨σ, M, _, Xk, sm, ss, (show wpE Γ.G C a σ M (fun x M1 => wpE Γ.G C b σ M1 (fun y M2 => sem2 Γ.G o x y M2 (fun r M3 => (match r with
      | .bool true => wpE Γ.G C c σ M3 (fun z M4 => sem2 Γ.G o' y z M4 Q) Xk
      | .bool false => Q (.bool false) M3
      | _ => False))) Xk) Xk from hw), lk, fun x M1 u H1 q rx sm1 st => ?_⟩
  refine ⟨σ, M1, _, Xk, sm1, ss.mono (st.tup sm), q, lk.step st, fun y M2 v H2 q2 ry sm2 st2 => ?_⟩
  refine ok x y M2 H2 u v _ _ sm2 (rx.mono (st2.tup sm1)) ry (hb2 _ _ _ _ _ q2) fun z M3 w H3 ⟨⟨bb, e⟩, q3⟩ rz sm3 st3 => ?_
  subst e
  cases rz
  refine ⟨bb, rfl, ?_⟩
  have stt := (st.trans st2).trans st3
  cases bb with
  | true =>
    refine iteT ⟨σ, M3, _, Xk, sm3, ss.mono (stt.tup sm), q3, lk.step stt, fun z M4 wz H4 q4 rz sm4 st4 => ?_⟩
    refine ok' y z M4 H4 v wz _ _ sm4 ((ry.mono (st3.tup sm2)).mono (st4.tup sm3)) rz (hb2' _ _ _ _ _ q4) fun z5 M5 w5 H5 ⟨⟨b5, e5⟩, q5⟩ r5 sm5 st5 => ?_
    subst e5
    cases r5
    obtain ⟨c', e', q'⟩ := kv _ M5 H5 q5 sm5 ((stt.trans st4).trans st5)
    cases e'
    exact ⟨b5, rfl, q'⟩
  | false =>
    refine iteF ?_
    obtain ⟨c', e', q'⟩ := kv _ M3 H3 q3 sm3 stt
    cases e'
    exact ⟨false, rfl, q'⟩
def isNb : Val → Bool
  | .none => true
  | _ => false
theorem isN_rv {x : Val} {u : HV} (r : RV Γ H x u) : decide (u = L2.V.non) = isNb x := by
  cases r <;> first | rfl | exact decide_eq_false (by intro z; cases z)
theorem je_isN {e : Expr} {a : E} {j : Nat} {p pos : Pos} (he : JE Γ W C X e a) : JE Γ W C X (.Compare e [.Is] [.Constant .none j p] pos) (.op1 .isN a) ∧ JT Γ W C X (.Compare e [.Is] [.Constant .none j p] pos) (.op1 .isN a) := by
  refine ⟨pe_imp (pe_cmpR op_isN he pe_non (nomark _)) fun s H R q => ?_, pt_imp (pt_cmpR op_isN he pe_non (nomark _)) fun s H R q => ?_⟩
  · refine te_seq (wa := wpE Γ.G C a) (k := fun x σ M1 Q X => sem1 Γ.G .isN x M1 Q) q fun x u σ M1 H1 Q Xk sm ss rx q lk kv => ?_
    refine ⟨rfl, ?_⟩
    rw [isN_rv rx]
    have q : Q (.bool (isNb x)) M1 := by cases x <;> exact q
    exact kv.now sm q (.bl _)
  · obtain ⟨σ, M, Q, Xk, sm, ss, hw, lk, kv⟩ := q
    refine ⟨σ, M, _, Xk, sm, ss, (show wpE Γ.G C a σ M (fun x M1 => sem1 Γ.G .isN x M1 Q) Xk from hw), lk, fun x M1 u H1 q rx sm1 st => ⟨rfl, ?_⟩⟩
    have q : Q (.bool (isNb x)) M1 := by cases x <;> exact q
    obtain ⟨c', e', q'⟩ := kv _ M1 H1 q sm1 st
    cases e'
    rw [isN_rv rx]
    exact ⟨_, rfl, q'⟩
theorem je_notN {e : Expr} {a : E} {j : Nat} {p pos : Pos} (he : JE Γ W C X e a) : JE Γ W C X (.Compare e [.IsNot] [.Constant .none j p] pos) (.op1 .notN a) ∧ JT Γ W C X (.Compare e [.IsNot] [.Constant .none j p] pos) (.op1 .notN a) := by
  refine ⟨pe_imp (pe_cmpR op_notN he pe_non (nomark _)) fun s H R q => ?_, pt_imp (pt_cmpR op_notN he pe_non (nomark _)) fun s H R q => ?_⟩
  · refine te_seq (wa := wpE Γ.G C a) (k := fun x σ M1 Q X => sem1 Γ.G .notN x M1 Q) q fun x u σ M1 H1 Q Xk sm ss rx q lk kv => ?_
    refine ⟨rfl, ?_⟩
    rw [isN_rv rx]
    have q : Q (.bool (!isNb x)) M1 := by cases x <;> exact q
    exact kv.now sm q (.bl _)
  · obtain ⟨σ, M, Q, Xk, sm, ss, hw, lk, kv⟩ := q
    refine ⟨σ, M, _, Xk, sm, ss, (show wpE Γ.G C a σ M (fun x M1 => sem1 Γ.G .notN x M1 Q) Xk from hw), lk, fun x M1 u H1 q rx sm1 st => ⟨rfl, ?_⟩⟩
    have q : Q (.bool (!isNb x)) M1 := by cases x <;> exact q
    obtain ⟨c', e', q'⟩ := kv _ M1 H1 q sm1 st
    cases e'
    rw [isN_rv rx]
    exact ⟨_, rfl, q'⟩
theorem je_neg {e : Expr} {a : E} {pos : Pos} (he : JE Γ W C X e a) : JE Γ W C X (.UnaryOp .USub e pos) (.op1 .neg a) := by
  refine pe_imp (pe_un un_neg he) fun s H R q => ?_
  refine te_seq (wa := wpE Γ.G C a) (k := fun x σ M1 Q X => sem1 Γ.G .neg x M1 Q) q fun x u σ M1 H1 Q Xk sm ss rx q lk kv => ?_
  cases x <;> try exact (show False from q).elim
  cases rx
  exact ⟨_, rfl, kv.now sm q (.int _)⟩
theorem je_at (g : Gd Γ N ns W k X) {e i : Expr} {a b : E} {pos : Pos} (he : JE Γ W C X e a) (hi : JE Γ W C X i b) (hs : notSlice i = true) : JE Γ W C X (.Subscript e i pos) (.op2 .at_ a b) := by
  refine pe_imp (pe_ix (ix_all g.hK (by have := g.u; omega)) he hi (fun ov iv => ?_)) fun s H R q => jt_op2 rfl ok_at q
  cases i <;> first | rfl | cases hs
/-! ### all, any -/
theorem boolsOf_rv : ∀ {xs : List Val} {us : List HV} {bs : List Bool}, boolsOf xs = some bs → RVs Γ H xs us → us = bs.map L2.V.bl
  | [], _, ys, h, .nil => by cases h; rfl
  | x :: r, _, ys, h, .cons rx rr => by
    cases x <;> try (cases h; done)
    rename_i z
    have h : (boolsOf r).map (z :: ·) = some ys := h
    cases e : boolsOf r with
    | none => rw [e] at h; cases h
    | some zs =>
      rw [e] at h
      cases h
      cases rx
      rw [boolsOf_rv e rr]
      rfl
theorem ok_all : C1ok Γ .all_ (rAll Γ.K) := by
  intro x M H u Q R sm rx h kv
  cases x <;> try exact (show False from h).elim
  rename_i a
  cases rx
  replace h : (match M a with | some (.lst xs) => (match boolsOf xs with | some bs => Q (.bool (bs.all id)) M | _ => False) | _ => False) := h
  cases ea : M a with
  | none => simp only [ea] at h
  | some o =>
    simp only [ea] at h
    cases o <;> try exact (show False from h).elim
    rename_i xs
    cases eb : boolsOf xs with
    | none => simp only [eb] at h
    | some bs =>
      simp only [eb] at h
      obtain ⟨us, e1, r1⟩ := sm.lst ea
      rw [boolsOf_rv eb r1] at e1
      exact ⟨a, bs, rfl, SqL.of e1, kv.now sm h (.bl _)⟩
theorem ok_any : C1ok Γ .any_ (rAny Γ.K) := by
  intro x M H u Q R sm rx h kv
  cases x <;> try exact (show False from h).elim
  rename_i a
  cases rx
  replace h : (match M a with | some (.lst xs) => (match boolsOf xs with | some bs => Q (.bool (bs.any id)) M | _ => False) | _ => False) := h
  cases ea : M a with
  | none => simp only [ea] at h
  | some o =>
    simp only [ea] at h
    cases o <;> try exact (show False from h).elim
    rename_i xs
    cases eb : boolsOf xs with
    | none => simp only [eb] at h
    | some bs =>
      simp only [eb] at h
      obtain ⟨us, e1, r1⟩ := sm.lst ea
      rw [boolsOf_rv eb r1] at e1
      exact ⟨a, bs, rfl, SqL.of e1, kv.now sm h (.bl _)⟩
end
end MP
/-! Does a text's term say what a term of ours says? By a program; and what it answers is right. -/
namespace MP
open PySem L2
open PySem.Spec PyProof.Rows
/-- the names of a text -/
structure LS where
  fn : List (Str × Nat)
  xc : List (Str × Nat × Str)
  cl : List (Str × Cl)
  con : List (Str × Val)
  free : List Str
structure SC where
  N : List Str
  ns : List (Str × NameKind)
  tn : List (Str × NameKind)
def okName (x : Str) : Bool := !(x == ("__debug__" : Str)) && !(x == ("__classdict__" : Str)) && !(x == ("__name__" : Str))
def isGl (S : SC) (x : Str) : Bool := match S.ns.lookup x with | some .globalImplicit => true | _ => false
def ckC : Const → Val → Bool
  | .none, .none => true
  | .bool b, .bool c => b == c
  | .int i, .int j => i == j
  | .str s, .str t => decide (s = t)
  | _, _ => false
def eqC : Val → Val → Bool
  | .int i, .int j => i == j
  | .str s, .str t => decide (s = t)
  | _, _ => false
def ckCon (L : LS) (x : Str) (v : Val) : Bool := match L.con.lookup x with | some u => eqC u v | none => false
def ckBin : Operator → Op2 → Bool
  | .Add, .add => true
  | .Sub, .sub => true
  | .Mult, .mul => true
  | .Mod, .mod => true
  | .FloorDiv, .fdiv => true
  | .Pow, .pow => true
  | _, _ => false
def ckCmp : CmpOp → Op2 → Bool
  | .Eq, .eq => true
  | .NotEq, .ne => true
  | .Lt, .lt => true
  | .LtE, .le => true
  | .Gt, .gt => true
  | .GtE, .ge => true
  | .In, .in_ => true
  | .NotIn, .notin => true
  | _, _ => false
def ckB (o : Op1) (x : Str) : Bool := match o with
  | .len => decide (x = ("len" : Str))
  | .abs => decide (x = ("abs" : Str))
  | .int_ => decide (x = ("int" : Str))
  | .list_ => decide (x = ("list" : Str))
  | .tuple_ => decide (x = ("tuple" : Str))
  | .all_ => decide (x = ("all" : Str))
  | .any_ => decide (x = ("any" : Str))
  | .str_ => decide (x = ("str" : Str))
  | _ => false
def ckM (m : Mth) (x : Str) : Bool := match m with
  | .append => decide (x = ("append" : Str))
  | .split => decide (x = ("split" : Str))
  | .join => decide (x = ("join" : Str))
  | .index => decide (x = ("index" : Str))
  | .pop1 => false
def isNoneE : Expr → Bool
  | .Constant .none _ _ => true
  | _ => false
def eqCl : Cl → Cl → Bool
  | .ty a, .ty b => a == b
  | .own a, .own b => a == b
  | _, _ => false
def ckCl (L : LS) (S : SC) (e : Expr) (c : Cl) : Bool := match e with
  | .Name x _ => okName x && isGl S x && (match L.cl.lookup x with | some d => eqCl d c | none => false)
  | _ => false
def ownP (S : SC) (own : List Nat) : List (Str × Nat) := own.map fun i => (S.N.getD i "", i)
def ckIf : Es → Bool
  | .nil => true
  | .cons _ .nil => true
  | _ => false
def SC.blk (S : SC) (scope : Scope) : SC := ⟨S.N, relN S.ns scope.names, scope.names⟩
def isCmp : Expr → Bool
  | .Compare _ _ _ _ => true
  | _ => false
section
variable (L : LS)
mutual
def ckE : Nat → SC → Expr → E → Bool
  | 0, _, _, _ => false
  | n + 1, S, e, a => match e with
    | .Constant c _ _ => (match a with | .con v => ckC c v | _ => false)
    | .Name x _ => okName x && (match a with
      | .var i => decide (S.N[i]? = some x) && isVis (S.ns.lookup x)
      | .con v => isGl S x && ckCon L x v
      | _ => false)
    | .BinOp l op r _ => (match a with | .op2 o b c => ckBin op o && (ckE n S l b && ckE n S r c) | _ => false)
    | .UnaryOp op x _ => (match op with
      | .USub => (match a with | .op1 .neg b => ckE n S x b | _ => false)
      | .Not => (match a with | .op1 .not_ b => ckE n S x b | _ => false)
      | _ => false)
    | .Compare l ops rs _ => (match ops with
      | [op] => (match rs with
        | [r] => (match a with
          | .op1 .isN b => (op == .Is) && (isNoneE r && ckE n S l b)
          | .op1 .notN b => (op == .IsNot) && (isNoneE r && ckE n S l b)
          | .op2 o b c => ckCmp op o && (notSet r && (ckE n S l b && ckE n S r c))
          | _ => false)
        | _ => false)
      | [op, op'] => (match rs with
        | [r, t] => (match a with | .chain o o' b c d => ckCmp op o && (ckCmp op' o' && (notSet t && (ckE n S l b && (ckE n S r c && ckE n S t d)))) | _ => false)
        | _ => false)
      | _ => false)
    | .BoolOp op vs p => (match vs with
      | [] => false
      | [x] => ckE n S x a
      | x :: y :: r => (match op with
        | .And => (match a with | .and_ b c => ckE n S x b && ckE n S (.BoolOp .And (y :: r) p) c | _ => false)
        | .Or => (match a with | .or_ b c => ckE n S x b && ckE n S (.BoolOp .Or (y :: r) p) c | _ => false)))
    | .IfExp t x y _ => (match a with | .ite b c d => ckT n S t b && (ckE n S x c && ckE n S y d) | _ => false)
    | .Subscript v i _ => (match i with
      | .Slice lo hi st _ => (match st with | none => (match a with | .slice b c d => ckE n S v b && (ckO n S lo c && ckO n S hi d) | _ => false) | some _ => false)
      | _ => (match a with | .op2 .at_ b c => notSlice i && (ckE n S v b && ckE n S i c) | _ => false))
    | .Tuple es _ _ => (match a with | .tup as => ckA n S es as | _ => false)
    | .List es _ => (match a with | .lst as => ckA n S es as | _ => false)
    | .Dict ks vs _ => (match ks with | [] => (match vs with | [] => (match a with | .dct0 => true | _ => false) | _ => false) | _ => false)
    | .Attribute v f _ => (match a with | .fld b f' => decide (f = f') && (notSup v && ckE n S v b) | _ => false)
    | .ListComp elt gs scope _ => (match gs with
      | [⟨tg, iter, ifs, ia⟩] => (match a with
        | .comp b own g it r => (ia == 0) && (blkC S.N ⟨.function, S.ns, false, false, []⟩ scope (ownP S own) && ((idsG g).all (fun i => own.contains i) && (ckIf r && (notSet iter && (ckI n S tg iter it && (ckG n (S.blk scope) tg g && (ckFs n (S.blk scope) ifs r && ckE n (S.blk scope) elt b)))))))
        | _ => false)
      | _ => false)
    | .Call f args kws pos => (match kws with
      | _ :: _ => false
      | [] => (match f with
        | .Name x _ => okName x && (isGl S x && (match args with
          | [] => false
          | e :: es => notStar e && (noStars es && (match a with
            | .call i as => decide (L.fn.lookup x = some i) && ckA n S (e :: es) as
            | .op1 o b => (match es with | [] => ckB o x && (L.free.contains x && ckE n S e b) | _ => false)
            | .isi b [c] => (match es with | [e2] => decide (x = ("isinstance" : Str)) && (L.free.contains x && (ckE n S e b && ckCl L S e2 c)) | _ => false)
            | _ => false))))
        | .Attribute o m ap => (match args with
          | [e] => (match a with | .meth mm b (.cons c .nil) => ckM mm m && (notSup o && ((ap.endLine == pos.line) && (notStar e && (ckE n S o b && ckE n S e c)))) | _ => false)
          | _ => false)
        | _ => false))
    | _ => false
def ckT : Nat → SC → Expr → E → Bool
  | 0, _, _, _ => false
  | n + 1, S, e, a => match e with
    | .UnaryOp op x _ => (match op with | .Not => (match a with | .op1 .not_ b => ckT n S x b | _ => false) | _ => false)
    | .BoolOp op vs p => (match vs with
      | [] => false
      | [x] => ckT n S x a
      | x :: y :: r => (match op with
        | .And => (match a with | .and_ b c => ckT n S x b && ckT n S (.BoolOp .And (y :: r) p) c | _ => false)
        | .Or => (match a with | .or_ b c => ckT n S x b && ckT n S (.BoolOp .Or (y :: r) p) c | _ => false)))
    | .Compare _ _ _ _ => ckE n S e a
    | _ => plainTest e && ckE n S e a
def ckA : Nat → SC → List Expr → Es → Bool
  | 0, _, _, _ => false
  | n + 1, S, es, as => match es with
    | [] => (match as with | .nil => true | _ => false)
    | e :: r => (match as with
      | .nil => false
      | .cons a b => notStar e && (ckE n S e a && ckA n S r b)
      | .star a b => (match e with | .Starred x _ => ckE n S x a && ckA n S r b | _ => false))
def ckO : Nat → SC → Option Expr → E → Bool
  | 0, _, _, _ => false
  | n + 1, S, o, a => match o with
    | none => (match a with | .con .none => true | _ => false)
    | some e => ckE n S e a
def ckI : Nat → SC → Expr → Expr → Itr → Bool
  | 0, _, _, _, _ => false
  | n + 1, S, tg, e, it => match it with
    | .each a => ckE n S e a
    | .rng1 a => (match e with | .Call (.Name x _) [e1] [] _ => decide (x = ("range" : Str)) && (isGl S x && (L.free.contains x && (notStar e1 && ckE n S e1 a))) | _ => false)
    | .rng2 a b => (match e with | .Call (.Name x _) [e1, e2] [] _ => decide (x = ("range" : Str)) && (isGl S x && (L.free.contains x && (notStar e1 && (notStar e2 && (ckE n S e1 a && ckE n S e2 b))))) | _ => false)
    | .enum a => (match tg with
      | .Tuple _ _ _ => (match e with | .Call (.Name x _) [e1] [] _ => decide (x = ("enumerate" : Str)) && (isGl S x && (L.free.contains x && (notStar e1 && ckE n S e1 a))) | _ => false)
      | _ => false)
def ckG : Nat → SC → Expr → Tg → Bool
  | 0, _, _, _ => false
  | n + 1, S, e, g => match g with
    | .name i => (match e with | .Name x _ => decide (S.N[i]? = some x) && (isLoc (S.ns.lookup x) && isLoc (S.tn.lookup x)) | _ => false)
    | .tup ts => (match e with | .Tuple es _ _ => noStars es && (decide (es.length = lenT ts) && ckGs n S es ts) | _ => false)
    | .sub a b => (match e with | .Subscript o i _ => notSlice i && (ckE n S o a && ckE n S i b) | _ => false)
def ckGs : Nat → SC → List Expr → Tgs → Bool
  | 0, _, _, _ => false
  | n + 1, S, es, ts => match es with
    | [] => (match ts with | .nil => true | _ => false)
    | e :: r => (match ts with | .nil => false | .cons g b => notStar e && (ckG n S e g && ckGs n S r b))
def ckFs : Nat → SC → List Expr → Es → Bool
  | 0, _, _, _ => false
  | n + 1, S, es, as => match es with
    | [] => (match as with | .nil => true | _ => false)
    | [e] => (match as with | .cons a .nil => ckT n S e a | _ => false)
    | _ => false
end
end
end MP
/-! What the checker answers is right: terms. -/
namespace MP
open PySem L2
open PySem.Spec PyProof.Rows
section
variable {Γ : SG} {L : LS} {C : Calls} {k : Nat}
structure FL (Γ : SG) (L : LS) (C : Calls) (k : Nat) : Prop where
  K : GK Γ
  fn : ∀ x f, L.fn.lookup x = some f → FT Γ C k f x
  xc : ∀ x c f, L.xc.lookup x = some (c, f) → XC Γ c x f
  cl : ∀ x c, L.cl.lookup x = some c → Γ.clok c = true ∧ (match c with | .own i => Γ.mg x = some (.ref (Γ.cad i)) | .ty n => Γ.mg x = none ∧ bootBuiltins x = some (.type n))
  con : ∀ x v, L.con.lookup x = some v → ∃ u hv, Γ.mg x = some u ∧ RelV hv u ∧ ∀ H, RV Γ H v hv
  free : ∀ x, x ∈ L.free → Γ.mg x = none
theorem and2 {a b : Bool} (h : (a && b) = true) : a = true ∧ b = true := Bool.and_eq_true_iff.mp h
theorem nm_of {x : Str} (h : okName x = true) : (x == ("__debug__" : Str)) = false ∧ (x == ("__classdict__" : Str)) = false ∧ x ≠ ("__name__" : Str) := by
  unfold okName at h
  obtain ⟨h1, h2⟩ := and2 h
  obtain ⟨h1, h3⟩ := and2 h1
  refine ⟨by simpa using h1, by simpa using h3, fun z => ?_⟩
  rw [z] at h2
  simp at h2
theorem gl_is {S : SC} {x : Str} (h : isGl S x = true) : S.ns.lookup x = some .globalImplicit := by
  unfold isGl at h
  split at h
  · assumption
  · cases h
theorem eqC_ok {u v : Val} (h : eqC u v = true) : u = v := by
  cases u <;> cases v <;> first | (cases h; done) | skip
  · rename_i i j; have e : i = j := by simpa [eqC] using h
    rw [e]
  · rename_i i j; have e : i = j := by simpa [eqC] using h
    rw [e]
theorem eqCl_ok {u v : Cl} (h : eqCl u v = true) : u = v := by
  cases u <;> cases v <;> first | (cases h; done) | skip
  · rename_i i j; have e : i = j := by simpa [eqCl] using h
    rw [e]
  · rename_i i j; have e : i = j := by simpa [eqCl] using h
    rw [e]
variable {W : WX} {X : Cx}
theorem ckC_ok {c : Const} {v : Val} {j : Nat} {p : Pos} (h : ckC c v = true) : JE Γ W C X (.Constant c j p) (.con v) := by
  cases c <;> cases v <;> first | (cases h; done) | skip
  · exact je_con pe_non fun _ => .non
  · rename_i i j; have e : i = j := by simpa [ckC] using h
    subst e
    exact je_con pe_bl fun _ => .bl _
  · rename_i i j; have e : i = j := by simpa [ckC] using h
    subst e
    exact je_con pe_int fun _ => .int _
  · rename_i i j; have e : i = j := by simpa [ckC] using h
    subst e
    exact je_con pe_str fun _ => .str _
theorem ckBin_ok (g : Gd Γ N ns W k X) {op : Operator} {o : Op2} {a b : E} {ea eb : Expr} {pos : Pos} (h : ckBin op o = true) (ha : JE Γ W C X ea a) (hb : JE Γ W C X eb b) : JE Γ W C X (.BinOp ea op eb pos) (.op2 o a b) := by
  cases op <;> cases o <;> first | (cases h; done) | skip
  · exact je_bin rfl ok_add op_addA ha hb
  · exact je_bin rfl ok_sub op_sub ha hb
  · exact je_bin rfl ok_mul op_mulA ha hb
  · exact je_bin rfl ok_mod op_mod ha hb
  · exact je_bin rfl ok_pow op_pow ha hb
  · exact je_bin rfl ok_fdiv op_fdiv ha hb
theorem ckCmp_ok (g : Gd Γ N ns W k X) {op : CmpOp} {o : Op2} (h : ckCmp op o = true) : Bool2 o ∧ ∃ r, R2ok Γ o r ∧ OpR X (compareOp op) r := by
  have hu := g.u
  have hu2 : X.A.units + 65 < cLine := by have := g.room.un; omega
  cases op <;> cases o <;> first | (cases h; done) | skip
  · exact ⟨bool2_of (by simp), _, ok_eq, by rw [← g.hK]; exact op_eqD hu⟩
  · exact ⟨bool2_of (by simp), _, ok_ne, by rw [← g.hK]; exact op_neD hu⟩
  · exact ⟨bool2_of (by simp), _, ok_lt, op_lt⟩
  · exact ⟨bool2_of (by simp), _, ok_le, op_le⟩
  · exact ⟨bool2_of (by simp), _, ok_gt, op_gt⟩
  · exact ⟨bool2_of (by simp), _, ok_ge, op_ge⟩
  · exact ⟨bool2_of (by simp), _, ok_in, op_inA g.hK hu2⟩
  · exact ⟨bool2_of (by simp), _, ok_notin, op_notInA g.hK hu2⟩
theorem ckCl_ok (F : FL Γ L C k) {S : SC} (g : Gd Γ S.N S.ns W k X) {e : Expr} {c : Cl} (h : ckCl L S e c = true) : PE X e (tC (clHV Γ c)) ∧ notStar e = true ∧ Γ.clok c = true := by
  unfold ckCl at h
  split at h
  · rename_i x p
    obtain ⟨h1, h2⟩ := and2 h
    obtain ⟨h1, h3⟩ := and2 h1
    split at h2
    · rename_i d hd
      cases eqCl_ok h2
      obtain ⟨f1, f2⟩ := F.cl x c hd
      obtain ⟨n1, n2, n3⟩ := nm_of h1
      refine ⟨?_, rfl, f1⟩
      cases c with
      | own i => exact pe_glob (gl_of g (gl_is h3)) (by rw [g.hmg]; exact f2) rfl n1
      | ty n => exact pe_bltn (gl_of g (gl_is h3)) (by rw [g.hmg]; exact f2.1) f2.2 rfl n3 n1
    · cases h2
  · cases h
theorem ckB_ok (F : FL Γ L C k) {S : SC} (g : Gd Γ S.N S.ns W k X) {o : Op1} {x : Str} {e : Expr} {a : E} {p pos : Pos} (h : ckB o x = true) (hx : isGl S x = true) (hf : x ∈ L.free) (ha : JE Γ W C X e a) (hs : notStar e = true) : JE Γ W C X (.Call (.Name x p) [e] [] pos) (.op1 o a) := by
  have hx := gl_is hx
  have hm := F.free x hf
  cases o <;> first | (cases h; done) | skip
  all_goals (have e : _ = _ := of_decide_eq_true h; subst e)
  · exact je_bi g (call_lenA g.hK) ok_len hx hm (by decide +kernel) (by decide) (by decide) ha hs
  · exact je_bi g call_abs ok_abs hx hm (by decide +kernel) (by decide) (by decide) ha hs
  · exact je_bt g call_int1 ok_int hx hm (by decide +kernel) (by decide) (by decide) ha hs
  · exact je_bt g (r := rListA Γ) (by unfold rListA; rw [← g.hK]; exact call_list_of) ok_list hx hm (by decide +kernel) (by decide) (by decide) ha hs
  · exact je_bt g (r := rTupleA Γ) (by unfold rTupleA; rw [← g.hK]; exact call_tuple_of) ok_tuple hx hm (by decide +kernel) (by decide) (by decide) ha hs
  · exact je_bi g (by rw [← g.hK]; exact cr_all g.calm) ok_all hx hm (by decide +kernel) (by decide) (by decide) ha hs
  · exact je_bi g (by rw [← g.hK]; exact cr_any g.calm) ok_any hx hm (by decide +kernel) (by decide) (by decide) ha hs
  · exact je_str g hx hm ha hs
end
end MP
/-! What the checker answers is right: the induction over terms. -/
namespace MP
open PySem L2
open PySem.Spec PyProof.Rows
section
variable {Γ : SG} {L : LS} {C : Calls} {k : Nat}
/-- targets may be stored -/
def Tgt (S : SC) (X : Cx) : Prop := ∀ x, isLoc (S.tn.lookup x) = true → X.fn x = true ∨ S.ns.lookup x = some .local
def isBop : Expr → Bool
  | .BoolOp _ _ _ => true
  | _ => false
structure Sound (Γ : SG) (L : LS) (C : Calls) (k n : Nat) : Prop where
  e : ∀ {S : SC} {e : Expr} {a : E} {W : WX} {X : Cx}, ckE L n S e a = true → Gd Γ S.N S.ns W k X → JE Γ W C X e a ∧ (isCmp e = true → JT Γ W C X e a)
  t : ∀ {S : SC} {e : Expr} {a : E} {W : WX} {X : Cx}, ckT L n S e a = true → Gd Γ S.N S.ns W k X → JT Γ W C X e a
  w : ∀ {S : SC} {e : Expr} {a : E} {W : WX} {X : Cx}, ckT L n S e a = true → isBop e = true → Gd Γ S.N S.ns W k X → PW X e (TT' Γ W (wpE Γ.G C a))
  a : ∀ {S : SC} {e : List Expr} {a : Es} {W : WX} {X : Cx}, ckA L n S e a = true → Gd Γ S.N S.ns W k X → JA Γ W C X e a
  o : ∀ {S : SC} {e : Option Expr} {a : E} {W : WX} {X : Cx}, ckO L n S e a = true → Gd Γ S.N S.ns W k X → PO X e (TO' Γ W (wpE Γ.G C a))
  i : ∀ {S : SC} {tg e : Expr} {a : Itr} {W : WX} {X : Cx}, ckI L n S tg e a = true → Gd Γ S.N S.ns W k X → JI Γ W C X tg e a
  g : ∀ {S : SC} {e : Expr} {a : Tg} {W : WX} {X : Cx}, ckG L n S e a = true → Gd Γ S.N S.ns W k X → Tgt S X → JG Γ W C X e a
  gs : ∀ {S : SC} {e : List Expr} {a : Tgs} {W : WX} {X : Cx}, ckGs L n S e a = true → Gd Γ S.N S.ns W k X → Tgt S X → JGs Γ W C X e a
  fs : ∀ {S : SC} {e : List Expr} {a : Es} {X : Cx}, ckFs L n S e a = true → Gd Γ S.N S.ns W0 k X → PTs X e (TIf Γ C a)
theorem sound0 : Sound Γ L C k 0 := by
  constructor <;> intros <;> simp [ckE, ckT, ckA, ckO, ckI, ckG, ckGs, ckFs] at *
variable {n : Nat}
theorem sound_a (I : Sound Γ L C k n) {S : SC} {es : List Expr} {as : Es} {W : WX} {X : Cx} (h : ckA L (n + 1) S es as = true) (g : Gd Γ S.N S.ns W k X) : JA Γ W C X es as := by
  unfold ckA at h
  cases es with
  | nil => cases as <;> first | exact ja_nil | cases h
  | cons e r =>
    cases as with
    | nil => cases h
    | cons a b =>
      obtain ⟨h1, h2⟩ := and2 h
      obtain ⟨h2, h3⟩ := and2 h2
      exact ja_cons (I.e h2 g).1 (I.a h3 g) h1
    | star a b =>
      cases e <;> try (cases h; done)
      obtain ⟨h1, h2⟩ := and2 h
      exact ja_star g (I.e h1 g).1 (I.a h2 g)
theorem sound_o (I : Sound Γ L C k n) {S : SC} {e : Option Expr} {a : E} {W : WX} {X : Cx} (h : ckO L (n + 1) S e a = true) (g : Gd Γ S.N S.ns W k X) : PO X e (TO' Γ W (wpE Γ.G C a)) := by
  unfold ckO at h
  cases e with
  | none =>
    cases a <;> try (cases h; done)
    rename_i v
    cases v <;> first | exact jo_none | cases h
  | some e => exact jo_some (I.e h g).1
theorem sound_i (F : FL Γ L C k) (I : Sound Γ L C k n) {S : SC} {tg e : Expr} {a : Itr} {W : WX} {X : Cx} (h : ckI L (n + 1) S tg e a = true) (g : Gd Γ S.N S.ns W k X) : JI Γ W C X tg e a := by
  unfold ckI at h
  cases a with
  | each a => exact ji_any g (I.e h g).1
  | rng1 a =>
    simp only at h
    split at h
    · rename_i x p e1 pos
      simp only [Bool.and_eq_true, decide_eq_true_eq] at h
      obtain ⟨h1, h2, h3, h4, h5⟩ := h
      subst h1
      exact ji_rng1 g (gl_is h2) (F.free _ (by simpa using h3)) (I.e h5 g).1 h4
    · cases h
  | rng2 a b =>
    simp only at h
    split at h
    · rename_i x p e1 e2 pos
      simp only [Bool.and_eq_true, decide_eq_true_eq] at h
      obtain ⟨h1, h2, h3, h4, h5, h6, h7⟩ := h
      subst h1
      exact ji_rng2 g (gl_is h2) (F.free _ (by simpa using h3)) (I.e h6 g).1 (I.e h7 g).1 h4 h5
    · cases h
  | enum a =>
    simp only at h
    split at h
    · split at h
      · simp only [Bool.and_eq_true, decide_eq_true_eq] at h
        obtain ⟨h1, h2, h3, h4, h5⟩ := h
        subst h1
        exact ji_enum g (gl_is h2) (F.free _ (by simpa using h3)) (I.e h5 g).1 h4
      · cases h
    · cases h
theorem sound_g (I : Sound Γ L C k n) {S : SC} {e : Expr} {a : Tg} {W : WX} {X : Cx} (h : ckG L (n + 1) S e a = true) (g : Gd Γ S.N S.ns W k X) (t : Tgt S X) : JG Γ W C X e a := by
  unfold ckG at h
  cases a with
  | name i =>
    cases e <;> try (cases h; done)
    simp only [Bool.and_eq_true, decide_eq_true_eq] at h
    obtain ⟨h1, h2, h3⟩ := h
    exact jg_name g h1 h2 (t _ h3)
  | tup ts =>
    cases e <;> try (cases h; done)
    simp only [Bool.and_eq_true, decide_eq_true_eq] at h
    obtain ⟨h1, h2, h3⟩ := h
    exact jg_tup g (I.gs h3 g t) h1 h2
  | sub a b =>
    cases e <;> try (cases h; done)
    simp only [Bool.and_eq_true] at h
    obtain ⟨h1, h2, h3⟩ := h
    exact jg_sub g (I.e h2 g).1 (I.e h3 g).1 h1
theorem sound_gs (I : Sound Γ L C k n) {S : SC} {es : List Expr} {as : Tgs} {W : WX} {X : Cx} (h : ckGs L (n + 1) S es as = true) (g : Gd Γ S.N S.ns W k X) (t : Tgt S X) : JGs Γ W C X es as := by
  unfold ckGs at h
  cases es with
  | nil => cases as <;> first | exact jgs_nil | cases h
  | cons e r =>
    cases as with
    | nil => cases h
    | cons a b =>
      obtain ⟨h1, h2⟩ := and2 h
      obtain ⟨h2, h3⟩ := and2 h2
      exact jgs_cons (I.g h2 g t) (I.gs h3 g t) h1
theorem sound_fs (I : Sound Γ L C k n) {S : SC} {es : List Expr} {as : Es} {X : Cx} (h : ckFs L (n + 1) S es as = true) (g : Gd Γ S.N S.ns W0 k X) : PTs X es (TIf Γ C as) := by
  unfold ckFs at h
  cases es with
  | nil => cases as <;> first | exact pts_of (.inl ⟨rfl, rfl⟩) | cases h
  | cons e r =>
    cases r with
    | cons _ _ => cases h
    | nil =>
      cases as <;> try (cases h; done)
      rename_i a b
      cases b <;> try (cases h; done)
      exact pts_of (.inr ⟨e, a, rfl, rfl, I.t h g⟩)
theorem sound_w (I : Sound Γ L C k n) {S : SC} {e : Expr} {a : E} {W : WX} {X : Cx} (h : ckT L (n + 1) S e a = true) (hb : isBop e = true) (g : Gd Γ S.N S.ns W k X) : PW X e (TT' Γ W (wpE Γ.G C a)) := by
  unfold ckT at h
  cases e <;> try (cases hb; done)
  rename_i op vs p
  cases vs with
  | nil => cases h
  | cons x r =>
    cases r with
    | nil =>
      have := I.t (e := x) h g
      cases op
      · exact pw_and1 this
      · exact pw_or1 this
    | cons y r =>
      cases op with
      | And =>
        cases a <;> try (cases h; done)
        obtain ⟨h1, h2⟩ := and2 h
        exact jw_and (I.t h1 g) (I.w h2 rfl g)
      | Or =>
        cases a <;> try (cases h; done)
        obtain ⟨h1, h2⟩ := and2 h
        exact jw_or (I.t h1 g) (I.w h2 rfl g)
theorem sound_t (I : Sound Γ L C k n) {S : SC} {e : Expr} {a : E} {W : WX} {X : Cx} (h : ckT L (n + 1) S e a = true) (g : Gd Γ S.N S.ns W k X) : JT Γ W C X e a := by
  by_cases hb : isBop e = true
  · exact PW.pt (sound_w I h hb g)
  unfold ckT at h
  have plain : (plainTest e && ckE L n S e a) = true → JT Γ W C X e a := fun h => jt_val g (I.e (and2 h).2 g).1 (and2 h).1
  cases e <;> first | exact plain h | (exact (hb rfl).elim) | skip
  case UnaryOp op x p =>
    cases op <;> try (cases h; done)
    cases a <;> try (cases h; done)
    rename_i o b
    cases o <;> try (cases h; done)
    exact jt_not (I.t h g)
  case Compare => exact (I.e h g).2 rfl
theorem ckM_ok {S : SC} {W : WX} {X : Cx} (g : Gd Γ S.N S.ns W k X) {m : Mth} {x : Str} {o e : Expr} {a b : E} {apos pos : Pos} (h : ckM m x = true) (ho : JE Γ W C X o a) (he : JE Γ W C X e b) (hb : notSup o = true) (hl : (apos.endLine == pos.line) = true) (hs : notStar e = true) : JE Γ W C X (.Call (.Attribute o x apos) [e] [] pos) (.meth m a (.cons b .nil)) := by
  cases m <;> first | (cases h; done) | skip
  all_goals (have e : _ = _ := of_decide_eq_true h; subst e)
  · exact je_append g ho he hb hl hs
  · exact je_split g ho he hb hl hs
  · exact je_join g ho he hb hl hs
  · exact je_index g ho he hb hl hs
theorem cmp1_ok {S : SC} {W : WX} {X : Cx} (g : Gd Γ S.N S.ns W k X) {op : CmpOp} {o : Op2} {a b : E} {ea eb : Expr} {pos : Pos} (h : ckCmp op o = true) (hn : notSet eb = true) (ha : JE Γ W C X ea a) (hb : JE Γ W C X eb b) : JE Γ W C X (.Compare ea [op] [eb] pos) (.op2 o a b) ∧ JT Γ W C X (.Compare ea [op] [eb] pos) (.op2 o a b) := by
  obtain ⟨b2, r, ok, ho⟩ := ckCmp_ok g h
  exact ⟨je_cmp rfl ok ho (notSet_mark hn) ha hb, jt_cmp ok ho b2 (notSet_mark hn) ha hb⟩
theorem chain_ok {S : SC} {W : WX} {X : Cx} (g : Gd Γ S.N S.ns W k X) {op op' : CmpOp} {o o' : Op2} {a b c : E} {ea eb ec : Expr} {pos : Pos} (h : ckCmp op o = true) (h' : ckCmp op' o' = true) (hn : notSet ec = true) (ha : JE Γ W C X ea a) (hb : JE Γ W C X eb b) (hc : JE Γ W C X ec c) : JE Γ W C X (.Compare ea [op, op'] [eb, ec] pos) (.chain o o' a b c) ∧ JT Γ W C X (.Compare ea [op, op'] [eb, ec] pos) (.chain o o' a b c) := by
  obtain ⟨b2, r, ok, ho⟩ := ckCmp_ok g h
  obtain ⟨b2', r', ok', ho'⟩ := ckCmp_ok g h'
  have hm : lastMarks [op, op'] [eb, ec] = false := notSet_mark hn
  exact ⟨je_chain ok ho ok' ho' ha hb hc hm b2 fun h1 h2 h3 => pe_chain ho ho' h1 h2 h3 hm, jt_chain ok ok' ha hb hc b2 b2' fun h1 h2 h3 => pt_chain ho ho' h1 h2 h3 hm⟩
theorem own_of {own : List Nat} {S : SC} {g : Tg} (h : ((idsG g).all fun i => own.contains i) = true) : (∀ i ∈ idsG g, i ∈ (ownP S own).map (·.2)) ∧ (ownP S own).map (·.2) = own := by
  have e : (ownP S own).map (·.2) = own := by simp [ownP, List.map_map, Function.comp_def]
  refine ⟨fun i hi => ?_, e⟩
  rw [e]
  have := List.all_eq_true.mp h i hi
  simpa using this
theorem ckIf_ok {r : Es} (h : ckIf r = true) : r = .nil ∨ ∃ b, r = .cons b .nil := by
  cases r with
  | nil => exact .inl rfl
  | cons a b =>
    cases b <;> first | exact .inr ⟨_, rfl⟩ | cases h
  | star a b => cases h
theorem sound_comp (I : Sound Γ L C k n) {S : SC} {tg iter elt : Expr} {ifs : List Expr} {ia : Int} {scope : Scope} {pos : Pos} {b : E} {own : List Nat} {gt : Tg} {it : Itr} {r : Es} {W : WX} {X : Cx}
    (h : ((ia == 0) && (blkC S.N ⟨.function, S.ns, false, false, []⟩ scope (ownP S own) && ((idsG gt).all (fun i => own.contains i) && (ckIf r && (notSet iter && (ckI L n S tg iter it && (ckG L n (S.blk scope) tg gt && (ckFs L n (S.blk scope) ifs r && ckE L n (S.blk scope) elt b)))))))) = true) (g : Gd Γ S.N S.ns W k X) :
    JE Γ W C X (.ListComp elt [⟨tg, iter, ifs, ia⟩] scope pos) (.comp b own gt it r) := by
  obtain ⟨h1, h⟩ := and2 h
  obtain ⟨h2, h⟩ := and2 h
  obtain ⟨h3, h⟩ := and2 h
  obtain ⟨h4, h⟩ := and2 h
  obtain ⟨h5, h⟩ := and2 h
  obtain ⟨h6, h⟩ := and2 h
  obtain ⟨h7, h⟩ := and2 h
  obtain ⟨h8, h9⟩ := and2 h
  have e0 : ia = 0 := by simpa using h1
  subst e0
  obtain ⟨o1, o2⟩ := own_of (S := S) h3
  have := je_comp (elt := elt) (a := b) (ifs := ifs) (pos := pos) (own := ownP S own) g h2 o1 (ckIf_ok h4) (I.i h6 g) (fun Y gy ty => I.g (S := S.blk scope) h7 gy ty) (fun Y gy => I.fs (S := S.blk scope) h8 gy) (fun Y gy => (I.e (S := S.blk scope) h9 gy).1) h5
  rw [o2] at this
  exact this
theorem sound_e (F : FL Γ L C k) (I : Sound Γ L C k n) {S : SC} {e : Expr} {a : E} {W : WX} {X : Cx} (h : ckE L (n + 1) S e a = true) (g : Gd Γ S.N S.ns W k X) : JE Γ W C X e a ∧ (isCmp e = true → JT Γ W C X e a) := by
  unfold ckE at h
  cases e <;> try (cases h; done)
  case Constant c j p =>
    cases a <;> try (cases h; done)
    exact ⟨ckC_ok h, fun z => by cases z⟩
  case Name x p =>
    refine ⟨?_, fun z => by cases z⟩
    obtain ⟨h1, h2⟩ := and2 h
    obtain ⟨n1, n2, n3⟩ := nm_of h1
    cases a <;> try (cases h2; done)
    · rename_i v
      obtain ⟨h2, h3⟩ := and2 h2
      unfold ckCon at h3
      split at h3
      · rename_i u hu
        cases eqC_ok h3
        obtain ⟨u', hv, f1, f2, f3⟩ := F.con _ _ hu
        exact je_con (pe_glob (gl_of g (gl_is h2)) (by rw [g.hmg]; exact f1) f2 n1) f3
      · cases h3
    · rename_i i
      obtain ⟨h2, h3⟩ := and2 h2
      exact je_var g (of_decide_eq_true h2) h3 n1 n2
  case BinOp l op r p =>
    refine ⟨?_, fun z => by cases z⟩
    cases a <;> try (cases h; done)
    obtain ⟨h1, h⟩ := and2 h
    obtain ⟨h2, h3⟩ := and2 h
    exact ckBin_ok g h1 (I.e h2 g).1 (I.e h3 g).1
  case UnaryOp op x p =>
    refine ⟨?_, fun z => by cases z⟩
    cases op <;> try (cases h; done)
    · cases a <;> try (cases h; done)
      rename_i o b
      cases o <;> try (cases h; done)
      exact je_not g (I.e h g).1
    · cases a <;> try (cases h; done)
      rename_i o b
      cases o <;> try (cases h; done)
      exact je_neg (I.e h g).1
  case Compare l ops rs p =>
    have : JE Γ W C X (.Compare l ops rs p) a ∧ JT Γ W C X (.Compare l ops rs p) a := by
      simp only at h
      split at h
      · rename_i op
        split at h
        · rename_i r
          split at h
          · rename_i b
            obtain ⟨h1, h⟩ := and2 h
            obtain ⟨h2, h3⟩ := and2 h
            have e1 : op = .Is := by cases op <;> first | rfl | cases h1
            subst e1
            unfold isNoneE at h2
            split at h2
            · exact je_isN (I.e h3 g).1
            · cases h2
          · rename_i b
            obtain ⟨h1, h⟩ := and2 h
            obtain ⟨h2, h3⟩ := and2 h
            have e1 : op = .IsNot := by cases op <;> first | rfl | cases h1
            subst e1
            unfold isNoneE at h2
            split at h2
            · exact je_notN (I.e h3 g).1
            · cases h2
          · obtain ⟨h1, h⟩ := and2 h
            obtain ⟨h2, h⟩ := and2 h
            obtain ⟨h3, h4⟩ := and2 h
            exact cmp1_ok g h1 h2 (I.e h3 g).1 (I.e h4 g).1
          · cases h
        · cases h
      · split at h
        · split at h
          · obtain ⟨h1, h⟩ := and2 h
            obtain ⟨h2, h⟩ := and2 h
            obtain ⟨h3, h⟩ := and2 h
            obtain ⟨h4, h⟩ := and2 h
            obtain ⟨h5, h6⟩ := and2 h
            exact chain_ok g h1 h2 h3 (I.e h4 g).1 (I.e h5 g).1 (I.e h6 g).1
          · cases h
        · cases h
      · cases h
    exact ⟨this.1, fun _ => this.2⟩
  case BoolOp op vs p =>
    refine ⟨?_, fun z => by cases z⟩
    cases vs with
    | nil => cases h
    | cons x r =>
      cases r with
      | nil => exact pe_one (I.e h g).1
      | cons y r =>
        cases op with
        | And =>
          cases a <;> try (cases h; done)
          obtain ⟨h1, h2⟩ := and2 h
          exact je_and g (I.e h1 g).1 (I.e h2 g).1
        | Or =>
          cases a <;> try (cases h; done)
          obtain ⟨h1, h2⟩ := and2 h
          exact je_or g (I.e h1 g).1 (I.e h2 g).1
  case IfExp t x y p =>
    refine ⟨?_, fun z => by cases z⟩
    cases a <;> try (cases h; done)
    obtain ⟨h1, h⟩ := and2 h
    obtain ⟨h2, h3⟩ := and2 h
    exact je_ite (I.t h1 g) (I.e h2 g).1 (I.e h3 g).1
  case Subscript v i p =>
    refine ⟨?_, fun z => by cases z⟩
    simp only at h
    split at h
    · split at h
      · split at h
        · obtain ⟨h1, h⟩ := and2 h
          obtain ⟨h2, h3⟩ := and2 h
          exact je_slice g (I.e h1 g).1 (I.o h2 g) (I.o h3 g)
        · cases h
      · cases h
    · split at h
      · obtain ⟨h1, h⟩ := and2 h
        obtain ⟨h2, h3⟩ := and2 h
        exact je_at g (I.e h2 g).1 (I.e h3 g).1 h1
      · cases h
  case Tuple es m p =>
    refine ⟨?_, fun z => by cases z⟩
    cases a <;> try (cases h; done)
    exact je_tup (I.a h g)
  case List es p =>
    refine ⟨?_, fun z => by cases z⟩
    cases a <;> try (cases h; done)
    exact je_lst (I.a h g)
  case Dict ks vs p =>
    refine ⟨?_, fun z => by cases z⟩
    cases ks <;> try (cases h; done)
    cases vs <;> try (cases h; done)
    cases a <;> try (cases h; done)
    exact je_dct0
  case Attribute v f p =>
    refine ⟨?_, fun z => by cases z⟩
    cases a <;> try (cases h; done)
    obtain ⟨h1, h⟩ := and2 h
    obtain ⟨h2, h3⟩ := and2 h
    have e1 := of_decide_eq_true h1
    subst e1
    exact je_fld g F.K (I.e h3 g).1 h2
  case ListComp elt gs scope p =>
    refine ⟨?_, fun z => by cases z⟩
    simp only at h
    split at h
    · split at h
      · exact sound_comp I h g
      · cases h
    · cases h
  case Call f args kws pos =>
    refine ⟨?_, fun z => by cases z⟩
    simp only at h
    split at h
    · cases h
    · split at h
      · rename_i x p
        obtain ⟨h1, h⟩ := and2 h
        obtain ⟨h2, h⟩ := and2 h
        obtain ⟨n1, n2, n3⟩ := nm_of h1
        split at h
        · cases h
        · rename_i e es
          obtain ⟨h3, h⟩ := and2 h
          obtain ⟨h4, h⟩ := and2 h
          split at h
          · obtain ⟨h5, h6⟩ := and2 h
            exact je_call g (F.fn _ _ (of_decide_eq_true h5)) (gl_is h2) n1 (I.a h6 g) h3 h4
          · split at h
            · obtain ⟨h5, h⟩ := and2 h
              obtain ⟨h6, h7⟩ := and2 h
              exact ckB_ok F g h5 h2 (by simpa using h6) (I.e h7 g).1 h3
            · cases h
          · split at h
            · obtain ⟨h5, h⟩ := and2 h
              obtain ⟨h6, h⟩ := and2 h
              obtain ⟨h7, h8⟩ := and2 h
              have e1 := of_decide_eq_true h5
              subst e1
              obtain ⟨c1, c2, c3⟩ := ckCl_ok F g h8
              exact je_isi g F.K (gl_is h2) (F.free _ (by simpa using h6)) (I.e h7 g).1 h3 c1 c2 c3
            · cases h
          · cases h
      · split at h
        · split at h
          · obtain ⟨h1, h⟩ := and2 h
            obtain ⟨h2, h⟩ := and2 h
            obtain ⟨h3, h⟩ := and2 h
            obtain ⟨h4, h⟩ := and2 h
            obtain ⟨h5, h6⟩ := and2 h
            exact ckM_ok g h1 (I.e h5 g).1 (I.e h6 g).1 h2 h3 h4
          · cases h
        · cases h
      · cases h
theorem sound (F : FL Γ L C k) : ∀ n, Sound Γ L C k n
  | 0 => sound0
  | n + 1 =>
    have I := sound F n
    ⟨sound_e F I, sound_t I, sound_w I, sound_a I, sound_o I, sound_i F I, sound_g I, sound_gs I, sound_fs I⟩
end
end MP
/-! Does a text's statement say what a statement of ours says? And what that check answers is right. -/
namespace MP
open PySem L2
open PySem.Spec PyProof.Rows
section
variable (L : LS)
def ckX (n : Nat) (S : SC) (e : Expr) (c : Nat) (b : E) : Bool := match e with
  | .Call (.Name x _) [e] [] _ => okName x && (isGl S x && ((match L.xc.lookup x with | some p => p.1 == c | none => false) && (notStar e && ckE L n S e b)))
  | _ => false
def ckAsgC (n : Nat) (S : SC) (t e : Expr) (g : Tg) (a : E) : Bool := match t with
  | .Name y py => (match e with
    | .ListComp elt gs scope pos => (match gs with
      | [⟨tg, iter, ifs, ia⟩] => (match g with
        | .name iy => (match a with
          | .comp b own gt it r => (ia == 0) && ((decide (S.N[iy]? = some y) && (decide (S.ns.lookup y = some .local) && ((py.line == pos.line) && (!(scope.names.any fun (n, k) => n == y && (k == .local || k == .cell)))))) && (blkC S.N ⟨.function, S.ns, false, false, []⟩ scope (ownP S own) && ((idsG gt).all (fun i => own.contains i) && (ckIf r && (notSet iter && (ckI L n S tg iter it && (ckG L n (S.blk scope) tg gt && (ckFs L n (S.blk scope) ifs r && ckE L n (S.blk scope) elt b))))))))
          | _ => false)
        | _ => false)
      | _ => false)
    | _ => false)
  | _ => false
/-- the one handler of a try -/
def ckH (S : SC) (hs : List ExceptHandler) (c i j : Nat) : Bool := match hs with
  | [.ExceptHandler (some (.Name x _)) (some n) b _] => (match b with
    | [.Assign ts (.Name n' _) _] => (match ts with
      | [.Name y _] => decide (n = n') && (okName x && (okName n && (isGl S x && ((match L.cl.lookup x with | some d => eqCl d (.own c) | none => false) && (decide (S.N[i]? = some n) && (decide (S.ns.lookup n = some .local) && (decide (S.N[j]? = some y) && decide (S.ns.lookup y = some .local))))))))
      | _ => false)
    | _ => false)
  | _ => false
mutual
def ckS : Nat → SC → Stmt → S → Bool
  | 0, _, _, _ => false
  | n + 1, S, s, a => match s with
    | .Pass _ => (match a with | .pass => true | _ => false)
    | .Break _ => (match a with | .brk => true | _ => false)
    | .Continue _ => (match a with | .cont => true | _ => false)
    | .Expr e _ => (match a with | .exp b => notComp e && ckE L n S e b | _ => false)
    | .Return v _ => (match v with | some e => (match a with | .ret b => ckE L n S e b | _ => false) | none => false)
    | .If t x y _ => (match a with | .ite c ra rb => ckT L n S t c && (ckSs n S x ra && ckSs n S y rb) | _ => false)
    | .While t b oe _ => (match oe with | [] => (match a with | .while_ c rb => ckT L n S t c && ckSs n S b rb | _ => false) | _ => false)
    | .For tg it b oe _ => (match oe with | [] => (match a with | .for_ g i rb => notSet it && (ckI L n S tg it i && (ckG L n S tg g && ckSs n S b rb)) | _ => false) | _ => false)
    | .Assign ts e _ => (match ts with
      | [t] => (match a with | .asg g b => (okAsg t e && (ckE L n S e b && ckG L n S t g)) || ckAsgC L n S t e g b | _ => false)
      | _ => false)
    | .Raise e c _ => (match c with | none => (match e with | some e => (match a with | .raise c (.cons b .nil) => ckX L n S e c b | _ => false) | none => false) | some _ => false)
    | .Try b hs oe fb _ => (match oe with | [] => (match fb with | [] => (match a with | .tryAs rb (.own c) i j => ckH L S hs c i j && ckSs n S b rb | _ => false) | _ => false) | _ => false)
    | _ => false
def ckSs : Nat → SC → List Stmt → Ss → Bool
  | 0, _, _, _ => false
  | n + 1, S, ss, as => match ss with
    | [] => (match as with | .nil => true | _ => false)
    | s :: r => (match as with | .cons a b => ckS n S s a && ckSs n S r b | _ => false)
end
end
section
variable {Γ : SG} {L : LS} {C : Calls} {k : Nat} {n : Nat} {S : SC} {W : WX} {X : Cx}
theorem tgt_of (g : GdS Γ S.N S.ns W k X) (hT : S.tn = S.ns) : Tgt S X := fun x h => g.fn x (by rw [hT] at h; exact h)
theorem ckX_ok (F : FL Γ L C k) (hk : 2 ≤ k) (g : Gd Γ S.N S.ns W k X) {e : Expr} {c : Nat} {b : E} {pos : Pos} (h : ckX L n S e c b = true) : JS Γ W C X (.Raise (some e) none pos) (.raise c (.cons b .nil)) := by
  unfold ckX at h
  split at h
  · obtain ⟨h1, h⟩ := and2 h
    obtain ⟨h2, h⟩ := and2 h
    obtain ⟨h3, h⟩ := and2 h
    obtain ⟨h4, h5⟩ := and2 h
    split at h3
    · rename_i p hp
      have e1 : p.1 = c := by simpa using h3
      obtain ⟨c', f⟩ := p
      cases e1
      exact js_raise g hk (F.xc _ _ _ hp) (gl_is h2) (nm_of h1).1 ((sound F n).e h5 g).1 h4
    · cases h3
  · cases h
theorem ckAsgC_ok (F : FL Γ L C k) (g : Gd Γ S.N S.ns W k X) {t e : Expr} {gt : Tg} {a : E} {pos : Pos} (h : ckAsgC L n S t e gt a = true) : JS Γ W C X (.Assign [t] e pos) (.asg gt a) := by
  unfold ckAsgC at h
  split at h
  · split at h
    · split at h
      · split at h
        · split at h
          · obtain ⟨h1, h⟩ := and2 h
            obtain ⟨ha, h⟩ := and2 h
            obtain ⟨h2, h⟩ := and2 h
            obtain ⟨h3, h⟩ := and2 h
            obtain ⟨h4, h⟩ := and2 h
            obtain ⟨h5, h⟩ := and2 h
            obtain ⟨h6, h⟩ := and2 h
            obtain ⟨h7, h⟩ := and2 h
            obtain ⟨h8, h9⟩ := and2 h
            obtain ⟨a1, ha⟩ := and2 ha
            obtain ⟨a2, ha⟩ := and2 ha
            obtain ⟨a3, a4⟩ := and2 ha
            obtain rfl := eq_of_beq h1
            obtain ⟨o1, o2⟩ := own_of (S := S) h3
            have I := sound F n
            have := js_comp (spos := pos) (own := ownP S _) g h2 o1 (ckIf_ok h4) (of_decide_eq_true a1) (of_decide_eq_true a2) a3 (by simpa using a4) (I.i h6 g) (fun Y gy ty => I.g (S := S.blk _) h7 gy ty) (fun Y gy => I.fs (S := S.blk _) h8 gy) (fun Y gy => (I.e (S := S.blk _) h9 gy).1) h5
            rw [o2] at this
            exact this
          · cases h
        · cases h
      · cases h
    · cases h
  · cases h
theorem ckH_ok (F : FL Γ L C k) (g : GdS Γ S.N S.ns W k X) {hs : List ExceptHandler} {c i j : Nat} {body : List Stmt} {rb : Ss} {pos : Pos} (h : ckH L S hs c i j = true) (hb : ∀ W' Y, GdS Γ S.N S.ns W' k Y → JB Γ W' C Y body rb) : JS Γ W C X (.Try body hs [] [] pos) (.tryAs rb (.own c) i j) := by
  unfold ckH at h
  split at h
  · split at h
    · split at h
      · obtain ⟨h1, h⟩ := and2 h
        obtain ⟨h2, h⟩ := and2 h
        obtain ⟨h3, h⟩ := and2 h
        obtain ⟨h4, h⟩ := and2 h
        obtain ⟨h5, h⟩ := and2 h
        obtain ⟨h6, h⟩ := and2 h
        obtain ⟨h7, h⟩ := and2 h
        obtain ⟨h8, h9⟩ := and2 h
        have e1 := of_decide_eq_true h1
        subst e1
        split at h5
        · rename_i d hd
          cases eqCl_ok h5
          obtain ⟨f1, f2⟩ := F.cl _ _ hd
          exact js_try F.K g (of_decide_eq_true h6) (of_decide_eq_true h7) (of_decide_eq_true h8) (of_decide_eq_true h9) (nm_of h3).1 (nm_of h3).2.1 (gl_is h4) (nm_of h2).1 f2 f1 hb
        · cases h5
      · cases h
    · cases h
  · cases h
structure SoundS (Γ : SG) (L : LS) (C : Calls) (k n : Nat) : Prop where
  s : ∀ {S : SC} {s : Stmt} {a : MP.S} {W : WX} {X : Cx}, S.tn = S.ns → ckS L n S s a = true → GdS Γ S.N S.ns W k X → JS Γ W C X s a
  ss : ∀ {S : SC} {s : List Stmt} {a : Ss} {W : WX} {X : Cx}, S.tn = S.ns → ckSs L n S s a = true → GdS Γ S.N S.ns W k X → JB Γ W C X s a
theorem soundS_s (F : FL Γ L C k) (hk : 2 ≤ k) (I : SoundS Γ L C k n) {S : SC} {s : Stmt} {a : MP.S} {W : WX} {X : Cx} (hT : S.tn = S.ns) (h : ckS L (n + 1) S s a = true) (g : GdS Γ S.N S.ns W k X) : JS Γ W C X s a := by
  have J := sound F n
  unfold ckS at h
  cases s <;> try (cases h; done)
  case Pass p => cases a <;> first | exact js_pass | cases h
  case Break p => cases a <;> first | exact js_brk | cases h
  case Continue p => cases a <;> first | exact js_cont | cases h
  case Expr e p =>
    cases a <;> try (cases h; done)
    obtain ⟨h1, h2⟩ := and2 h
    exact js_exp (J.e h2 g.g).1 h1
  case Return v p =>
    cases v <;> try (cases h; done)
    cases a <;> try (cases h; done)
    exact js_ret (J.e h g.g).1
  case If t x y p =>
    cases a <;> try (cases h; done)
    obtain ⟨h1, h⟩ := and2 h
    obtain ⟨h2, h3⟩ := and2 h
    exact js_if (J.t h1 g.g) (I.ss hT h2 g) (I.ss hT h3 g)
  case While t b oe p =>
    cases oe <;> try (cases h; done)
    cases a <;> try (cases h; done)
    obtain ⟨h1, h2⟩ := and2 h
    exact js_while g.po (J.t h1 g.g) (I.ss hT h2 g)
  case For tg it b oe p =>
    cases oe <;> try (cases h; done)
    cases a <;> try (cases h; done)
    obtain ⟨h1, h⟩ := and2 h
    obtain ⟨h2, h⟩ := and2 h
    obtain ⟨h3, h4⟩ := and2 h
    exact js_for g.g.calm g.po (J.i h2 g.g) (J.g h3 g.g (tgt_of g hT)) (I.ss hT h4 g) h1
  case Assign ts e p =>
    cases ts <;> try (cases h; done)
    rename_i t ts
    cases ts <;> try (cases h; done)
    cases a <;> try (cases h; done)
    rcases Bool.or_eq_true_iff.mp h with h | h
    · obtain ⟨h1, h⟩ := and2 h
      obtain ⟨h2, h3⟩ := and2 h
      exact js_asg (J.e h2 g.g).1 (J.g h3 g.g (tgt_of g hT)) h1
    · exact ckAsgC_ok F g.g h
  case Raise e c p =>
    cases c <;> try (cases h; done)
    cases e <;> try (cases h; done)
    cases a <;> try (cases h; done)
    rename_i as
    cases as <;> try (cases h; done)
    rename_i r
    cases r <;> try (cases h; done)
    exact ckX_ok F hk g.g h
  case Try b hs oe fb p =>
    cases oe <;> try (cases h; done)
    cases fb <;> try (cases h; done)
    cases a <;> try (cases h; done)
    rename_i cl _ _
    cases cl <;> try (cases h; done)
    obtain ⟨h1, h2⟩ := and2 h
    exact ckH_ok F g h1 fun W' Y gy => I.ss hT h2 gy
theorem soundS (F : FL Γ L C k) (hk : 2 ≤ k) : ∀ n, SoundS Γ L C k n
  | 0 => ⟨fun _ h => by simp [ckS] at h, fun _ h => by simp [ckSs] at h⟩
  | n + 1 => by
    have I := soundS F hk n
    refine ⟨fun hT h g => soundS_s F hk I hT h g, fun {S ss as W X} hT h g => ?_⟩
    unfold ckSs at h
    cases ss with
    | nil => cases as <;> first | exact jb_nil | cases h
    | cons s r =>
      cases as <;> try (cases h; done)
      obtain ⟨h1, h2⟩ := and2 h
      exact jb_cons (I.s hT h1 g) (I.ss hT h2 g)
end
end MP
/-! The law's call, for a promise where no repr is under way. -/
namespace MP
open PySem L2
open PySem.Spec PyProof.Rows
section
variable {P : Program} {w : World} {K : PySem.W.Frag} {mg mb : Str → Option Value} {a : Addr} {s1 : Shared} {vs : List Value} {ns : List Int}
/-- the script's own object -/
abbrev sob (vs : List Value) : Obj := { cls := .type "list", data := .seq vs.toArray }
/-- the tracked part where the script is no object of the module -/
def hpS (a : Addr) (vs : List Value) (ns : List Int) : Hp := fun b => if b = a then some (.frz (sob vs) (.lst (ns.map V.int))) else none
theorem hpS_of {b : Addr} {u : HO} (h : hpS a vs ns b = some u) : b = a ∧ u = .frz (sob vs) (.lst (ns.map V.int)) := by
  unfold hpS at h
  split at h
  · rename_i e; cases h; exact ⟨e, rfl⟩
  · cases h
/-- where a call from outside starts, for tracked parts that hold the script at most -/
theorem env_top {H : Hp} (KX : K.In s1.heap) (gl : s1.heap.Ns mainGlobals mg) (bl : s1.heap.Ns builtinsNs mb) (bb : ∀ x : Str, x ≠ "__name__" → mb x = bootBuiltins x) (lim : s1.heap.NoLimit) (gens : s1.gens = #[])
    (ha : s1.heap.get? a = some (sob vs)) (own : ∀ b u, H b = some u → b = a ∧ K.lookup b = none) (hok : HOk P w H s1.heap) :
    K.In (hidT s1.heap H) ∧ (hidT s1.heap H).Ns mainGlobals mg ∧ Env0 P w K mg (hidT s1.heap H) callerA [] s1 H := by
  have look : ∀ {b : Addr} {o : Obj}, s1.heap.get? b = some o → (∀ u, H b = some u → False) → (hidT s1.heap H).get? b = some o := fun {b o} e n => hidT_get e (by
    cases q : H b with
    | none => rfl
    | some u => exact (n u q).elim)
  have names : ∀ {b : Addr} {m : Str → Option Value}, s1.heap.Ns b m → (hidT s1.heap H).Ns b m := by
    rintro b m ⟨o, es, ep, e, d, r⟩
    refine ⟨o, es, ep, look e fun u q => ?_, d, r⟩
    obtain ⟨rfl, -⟩ := own b u q
    rw [ha] at e
    cases e
    exact absurd d (by intro z; cases z)
  have kin : K.In (hidT s1.heap H) := fun b o e => look (KX b o e) fun u q => by
    have := (own b u q).2
    rw [e] at this
    cases this
  obtain ⟨mc, l1, l2⟩ := lim
  refine ⟨kin, names gl, rfl, ⟨kin, names gl, ⟨mb, names bl, bb⟩, ⟨mc, names l1, l2⟩⟩, fun b o e => of_hidT e, Nat.le_of_eq (hidT_size _ _), trivial, fun b hb => ?_, hok, .of_eq gens⟩
  exact absurd (show b ∈ ([] : List Addr) from hb) (by simp)
/-- .. and there is such a part -/
theorem start_top (KX : K.In s1.heap) (gl : s1.heap.Ns mainGlobals mg) (bl : s1.heap.Ns builtinsNs mb) (bb : ∀ x : Str, x ≠ "__name__" → mb x = bootBuiltins x) (lim : s1.heap.NoLimit) (gens : s1.gens = #[])
    (ha : s1.heap.get? a = some (sob vs)) (hi : IntsAre vs ns) (hl : ns.length ≤ sizeLine) :
    ∃ (H : Hp) (base : Heap), Only H ∧ SqL K H a (ns.map V.int) ∧ HOk P w H s1.heap ∧ K.In base ∧ base.Ns mainGlobals mg ∧ Env0 P w K mg base callerA [] s1 H := by
  have rv := vals_ints hi
  cases hk : K.lookup a with
  | some o =>
    have e := KX a o hk
    rw [ha] at e
    cases e
    have hok : HOk P w (fun _ => none) s1.heap := fun b u z => by
      have z' : (none : Option HO) = some u := z
      cases z'
    obtain ⟨h1, h2, h3⟩ := env_top (P := P) (w := w) (H := fun _ => none) KX gl bl bb lim gens ha (fun b u z => by have z' : (none : Option HO) = some u := z; cases z') hok
    exact ⟨_, _, fun _ => .inl rfl, .inr ⟨_, vs.toArray, _, hk, rfl, rfl, rfl, by rw [List.size_toArray, hi.length]; exact hl, by simpa using rv⟩, hok, h1, h2, h3⟩
  | none =>
    have hok : HOk P w (hpS a vs ns) s1.heap := fun b u z => by
      obtain ⟨rfl, rfl⟩ := hpS_of z
      exact ⟨ha, by rw [List.length_map]; exact hl, vs, _, rv, ha⟩
    obtain ⟨h1, h2, h3⟩ := env_top (P := P) (w := w) KX gl bl bb lim gens ha (fun b u z => ⟨(hpS_of z).1, by rw [(hpS_of z).1]; exact hk⟩) hok
    refine ⟨_, _, fun b => ?_, .inl (.inr ⟨sob vs, by unfold hpS; rw [if_pos rfl]⟩), hok, h1, h2, h3⟩
    cases q : hpS a vs ns b with
    | none => exact .inl rfl
    | some u => exact .inr ⟨_, _, by rw [(hpS_of q).2]⟩
/-- the call's end, told to the judge -/
theorem end_top {H : Hp} (hO : Only H) (hok : HOk P w H s1.heap) : ∀ r s', CR (L2.CX P w) [] P w H s1 (fun v _ => v = V.bl true) (fun _ _ _ => False) r s' → r = .ok (.ret (.bool true)) ∧ OldK s1.heap s'.heap ∧ s'.os = s1.os ∧ AllBare s'.gens
  | .error e, s', h => by
    obtain ⟨_, _, _, _, _, _, _, _, _, _, _, _, z⟩ := h
    exact z.elim
  | .ok .next, _, h => False.elim h
  | .ok .brk, _, h => False.elim h
  | .ok .cont, _, h => False.elim h
  | .ok (.ret u), s', ⟨v, H', os, bare, un, hok', r', q⟩ => by
    cases (show v = V.bl true from q)
    cases (show u = Value.bool true from r')
    refine ⟨rfl, OldK.of_keep fun b o e => ?_, os, bare⟩
    rcases hO b with z | ⟨_, _, z⟩
    · exact un.keep b o e z (fun y => absurd (show b ∈ ([] : List Addr) from y) (by simp)) (by simp)
    · have e1 := (hok b _ z).1
      rw [e] at e1
      cases e1
      exact (hok' b _ (un.frzs b _ _ z)).1
end
end MP
/-! What the head tells: a hook with one more check; the classes of errors; all defs at once. -/
namespace MP
open PySem L2
open PySem.Spec PyProof.Rows
/-! ### the hook -/
def obsM (n : Nat) (fa : List He.Fa) (fn : List He.DefD) (ex : PySem.W.Frag → Bool) (g : Addr → Option Obj) : He.AlD × Bool := (fun K => (He.obsD fa fn K, ex K)) (He.frG g (cStatics :: He.asD g n))
def hookM (n : Nat) (fa : List He.Fa) (fn : List He.DefD) (ex : PySem.W.Frag → Bool) : PySem.W.Hook where
  α := He.AlD × Bool
  obs := fun s => obsM n fa fn ex s.heap.get?
  val := fun _ => (He.valD fn, true)
  says := fun _ h => ∃ K : PySem.W.Frag, K.In h ∧ He.SaysD fa fn K ∧ ex K = true
  of := fun _ _ e => ⟨_, He.frG_in, congrArg Prod.fst e, congrArg Prod.snd e⟩
  keeps := fun _ _ _ ⟨K, hK, c⟩ k => ⟨K, PySem.W.Frag.In.keeps hK k, c⟩
theorem obsM_eq {n : Nat} {fa : List He.Fa} {fn : List He.DefD} {ex : PySem.W.Frag → Bool} {g : Addr → Option Obj} {s : Shared} (h : ∀ a, g a = s.heap.get? a) : obsM n fa fn ex g = (hookM n fa fn ex).obs s := by
  have e : g = s.heap.get? := funext h
  rw [e]
  rfl
/-! ### an own error's class -/
def oexB (K : PySem.W.Frag) (C : Addr) : Bool := match K.lookup C with
  | some ⟨.type c, _, .cls cd, sl⟩ => decide (c = "type") && (match cd.mro, sl.toList with
    | .ref D :: bm, [_, _, _, _, some (.builtin n), _] => decide (D = C) && (decide (n = "ValueError.__new__") && ((!cd.hasDel) && (cd.hasDict && PySem.HandSPX.refsVE bm)))
    | _, _ => false)
  | _ => false
theorem oexB_ok {K : PySem.W.Frag} {C : Addr} (h : oexB K C = true) : ∃ nm q N bs bm sn sub ab col dd k0 k1 k2 k3 k5, K.lookup C = some (excClassObj nm q C N bs bm true sn sub ab col dd k0 k1 k2 k3 k5 "ValueError.__new__") ∧ PySem.HandSPX.refsVE bm = true := by
  unfold oexB at h
  split at h
  · rename_i c dd cd sl ho
    obtain ⟨h1, h⟩ := and2 h
    split at h
    · rename_i D bm k0 k1 k2 k3 n k5 hm hs
      obtain ⟨h2, h⟩ := and2 h
      obtain ⟨h3, h⟩ := and2 h
      obtain ⟨h4, h⟩ := and2 h
      obtain ⟨h5, h6⟩ := and2 h
      have e1 : c = "type" := of_decide_eq_true h1
      have e2 : D = C := of_decide_eq_true h2
      have e3 : n = "ValueError.__new__" := of_decide_eq_true h3
      obtain ⟨nm, bs, mro, N, qn, hd, sn, sub, ab, col, del⟩ := cd
      dsimp only at hm h4 h5
      have e4 : del = false := by simpa using h4
      obtain ⟨l⟩ := sl
      have hs : l = _ := hs
      subst e1 e2 e3 e4 h5 hm hs
      exact ⟨_, _, _, _, _, _, _, _, _, _, _, _, _, _, _, ho, h6⟩
    · cases h
  · cases h
def eqV (a b : Option Value) : Bool := decide (a = b)
def eqB (a b : Option Bool) : Bool := decide (a = b)
/-- what the written part says of an own error's class at C -/
def ecB (K : PySem.W.Frag) (C : Addr) : Bool :=
  oexB K C && (He.eqO (PySem.W.findIn K (.ref C) "__setattr__") (some (some (.builtin "object.__setattr__"))) && (eqB (PySem.W.subIn K (.ref C) (.type "BaseException")) (some true) && (eqV (PySem.W.typeIn K (.ref C)) (some (.type "type")) && (PySem.W.keepIn K (.ref C) &&
  ((PySem.W.clsIn K C).isSome && (He.eqO (PySem.W.findIn K (.ref C) "__getattribute__") (some (some (.builtin "BaseException.__getattribute__"))) && (He.eqO (PySem.W.findIn K (.ref C) "__getattr__") (some none) && (PySem.W.hasDictIn K C && (He.eqO (PySem.W.findIn K (.ref C) "__class__") (some (some (.builtin "object.__class__"))) && eqB (PySem.W.mroIn K C (.type "object")) (some true))))))))))
theorem ecB_ok {K : PySem.W.Frag} {C : Addr} (h : ecB K C = true) : OexC K C ∧ EC K C := by
  obtain ⟨h1, h⟩ := and2 h
  obtain ⟨h2, h⟩ := and2 h
  obtain ⟨h3, h⟩ := and2 h
  obtain ⟨h4, h⟩ := and2 h
  obtain ⟨h5, h⟩ := and2 h
  obtain ⟨h6, h⟩ := and2 h
  obtain ⟨h7, h⟩ := and2 h
  obtain ⟨h8, h⟩ := and2 h
  obtain ⟨h9, h⟩ := and2 h
  obtain ⟨h10, h11⟩ := and2 h
  exact ⟨⟨oexB_ok h1, He.eqO_ok h2, of_decide_eq_true h3, of_decide_eq_true h4, h5⟩, ⟨h6, He.eqO_ok h7, He.eqO_ok h8, of_decide_eq_true h3, h9, He.eqO_ok h10, of_decide_eq_true h11⟩⟩
/-- a def of the text, its term -/
structure DI where
  name : Str
  st : Stmt
  N : List Str
  ps : List Str
  fn : Fn
/-- an own error: its number, its field, its maker's text -/
structure XI where
  c : Nat
  x : Str
  f : Str
  st : Stmt
structure LD where
  cs : List Str
  fl : List (List Str)
  tab : List (List Cl)
  cls : List Cl
  base : Nat
  L : LS
  ds : List DI
  xs : List XI
  law : Nat
section
variable (D : LD)
def LD.cad (K : PySem.W.Frag) (c : Nat) : Addr := He.ga K (D.cs.getD c Str.empty)
def LD.G (ns : List Int) : Glo := ⟨ns, fun c => D.fl.getD c [], fun c cl => (D.tab.getD c []).any (eqCl cl)⟩
def LD.sg (P : Program) (w : World) (K : PySem.W.Frag) (mg : Str → Option Value) (base : Heap) (ns : List Int) (a : Addr) : SG := ⟨P, w, K, mg, base, D.G ns, D.cad K, a, fun c => decide (c < D.cs.length), fun cl => D.cls.any (eqCl cl)⟩
def LD.tbl : Nat → Option Fn := fun f => (D.ds[f]?).map (·.fn)
def clVK (K : PySem.W.Frag) : Cl → Value
  | .ty n => .type n
  | .own c => .ref (D.cad K c)
def LD.ex (K : PySem.W.Frag) : Bool :=
  He.eqO (PySem.W.specialIn K (.builtin "object.__class__") "__get__") (some (some (.builtin "getset_descriptor.__get__"))) && (eqB (PySem.W.takesIn K (.builtin "object.__class__")) (some true) &&
  (((List.range D.cs.length).all fun c => ecB K (D.cad K c) && ((D.cls.all fun cl => eqB (PySem.W.kitOne K (.ref (D.cad K c)) (clVK D K cl)) (some ((D.G []).isOwn c cl))) &&
    ((((D.G []).efs c).all fun f => He.eqO (PySem.W.findIn K (.ref (D.cad K c)) f) (some none)) &&
    (D.cls.all fun cl => match cl with | .own d => eqB (PySem.W.exmOne K (.ref (D.cad K c)) (.ref (D.cad K d))) (some ((D.G []).isOwn c (.own d))) | .ty _ => true)))) &&
  ((D.cls.all fun cl => ["NoneType", "bool", "int", "str", "tuple", "list", "dict"].all fun t => eqB (PySem.W.kitOne K (.type t) (clVK D K cl)) (some (isTy t cl))) &&
  (PySem.W.readsIn K (D.cad K D.base) (.type "type") && (He.eqO (PySem.W.specialIn K (.ref (D.cad K D.base)) "__getattribute__") (some (some (.builtin "type.__getattribute__"))) &&
  ((match PySem.W.findCls K (.ref (D.cad K D.base)) (.type "type") "__init__" with | some (.val (.builtin i)) => decide (i = "ValueError.__init__") | _ => false) &&
  (D.xs.all fun x => He.eqO (PySem.W.findIn K (.ref (D.cad K x.c)) "__init__") (some (some (.ref (He.ma K (D.cad K x.c) "__init__")))) && eqV (PySem.W.typeIn K (.ref (He.ma K (D.cad K x.c) "__init__"))) (some (.type "function")))))))))
end
/-- what the K of a law is known to be, by LD.ex -/
structure KX (D : LD) (K : PySem.W.Frag) : Prop where
  hn : PySem.W.specialIn K (.builtin "object.__class__") "__get__" = some (some (.builtin "getset_descriptor.__get__"))
  htk : PySem.W.takesIn K (.builtin "object.__class__") = some true
  ec : ∀ c, c < D.cs.length → OexC K (D.cad K c) ∧ EC K (D.cad K c)
  kit : ∀ c cl, c < D.cs.length → cl ∈ D.cls → PySem.W.kitOne K (.ref (D.cad K c)) (clVK D K cl) = some ((D.G []).isOwn c cl)
  nf : ∀ c f, c < D.cs.length → f ∈ (D.G []).efs c → PySem.W.findIn K (.ref (D.cad K c)) f = some none
  exm : ∀ c d, c < D.cs.length → Cl.own d ∈ D.cls → PySem.W.exmOne K (.ref (D.cad K c)) (.ref (D.cad K d)) = some ((D.G []).isOwn c (.own d))
  kitT : ∀ t cl, t ∈ ["NoneType", "bool", "int", "str", "tuple", "list", "dict"] → cl ∈ D.cls → PySem.W.kitOne K (.type t) (clVK D K cl) = some (isTy t cl)
  tag : TagC K (D.cad K D.base)
  ini : ∀ x ∈ D.xs, PySem.W.findIn K (.ref (D.cad K x.c)) "__init__" = some (some (.ref (He.ma K (D.cad K x.c) "__init__"))) ∧ PySem.W.typeIn K (.ref (He.ma K (D.cad K x.c) "__init__")) = some (.type "function")
theorem kx_of {D : LD} {K : PySem.W.Frag} (h : D.ex K = true) : KX D K := by
  obtain ⟨h1, h⟩ := and2 h
  obtain ⟨h2, h⟩ := and2 h
  obtain ⟨h3, h⟩ := and2 h
  obtain ⟨h4, h⟩ := and2 h
  obtain ⟨h5, h⟩ := and2 h
  obtain ⟨h6, h⟩ := and2 h
  obtain ⟨h7, h8⟩ := and2 h
  have r := fun c (hc : c < D.cs.length) => List.all_eq_true.mp h3 c (List.mem_range.mpr hc)
  refine ⟨He.eqO_ok h1, of_decide_eq_true h2, fun c hc => ecB_ok (and2 (r c hc)).1, fun c cl hc hl => ?_, fun c f hc hf => ?_, fun c d hc hl => ?_, fun t cl ht hl => ?_, ⟨h5, He.eqO_ok h6, ?_⟩, fun x hx => ?_⟩
  · exact of_decide_eq_true (List.all_eq_true.mp (and2 (and2 (r c hc)).2).1 cl hl)
  · exact He.eqO_ok (List.all_eq_true.mp (and2 (and2 (and2 (r c hc)).2).2).1 f hf)
  · exact of_decide_eq_true (List.all_eq_true.mp (and2 (and2 (and2 (r c hc)).2).2).2 (.own d) hl)
  · exact of_decide_eq_true (List.all_eq_true.mp (List.all_eq_true.mp h4 cl hl) t ht)
  · split at h7
    · rename_i i e
      rw [e]
      have e2 : i = _ := of_decide_eq_true h7
      rw [e2]
    · cases h7
  · obtain ⟨a, b⟩ := and2 (List.all_eq_true.mp h8 x hx)
    exact ⟨He.eqO_ok a, of_decide_eq_true b⟩
theorem mem_cl {cl : Cl} {l : List Cl} (h : l.any (eqCl cl) = true) : cl ∈ l := by
  obtain ⟨d, hd, e⟩ := List.any_eq_true.mp h
  cases eqCl_ok e
  exact hd
section
variable {D : LD} {P : Program} {w : World} {K : PySem.W.Frag} {mg : Str → Option Value} {base : Heap} {ns : List Int} {a : Addr}
theorem clV_eq {cl : Cl} : clV (D.sg P w K mg base ns a) cl = clVK D K cl := by cases cl <;> rfl
theorem gk_of (x : KX D K) : GK (D.sg P w K mg base ns a) where
  hn := x.hn
  htk := x.htk
  exc := fun c hc => (x.ec c (of_decide_eq_true hc)).2
  kitE := fun c cl hc hl => by rw [clV_eq]; exact x.kit c cl (of_decide_eq_true hc) (mem_cl hl)
  kitT := fun t cl ht hl => by rw [clV_eq]; exact x.kitT t cl ht (mem_cl hl)
  nf := fun c f hc hf => x.nf c f (of_decide_eq_true hc) hf
  exm := fun c d hc hl => x.exm c d (of_decide_eq_true hc) (mem_cl hl)
end
end MP
/-! All defs of a law keep their promises; the law. -/
namespace MP
open PySem L2
open PySem.Spec PyProof.Rows
theorem fun_of {K : PySem.W.Frag} {x q : Str} {st : Stmt} {f : Addr} {fd : FuncData} (F : FunD K x q (defArgs st) (defBody st) (defScope st) [] [] f fd) : Fun K x q st f fd := by
  obtain ⟨⟨oc, od, dV, kV, doc, pm, an, cdv, ct, osl, e, lk, hcd, hD, _⟩, kp⟩ := F
  refine ⟨⟨oc, od, kV, doc, pm, an, cdv, ct, osl, ?_, lk, hcd⟩, kp⟩
  rcases hD with ⟨_, rfl⟩ | ⟨z, _⟩
  · exact e
  · exact absurd rfl z
abbrev Bd (x q : Str) (st : Stmt) (ps : List Str) : Prop := ∀ (kV doc pm : Value) (an : Option Addr) (cdv ct : Value) (us : List Value), us.length = ps.length → bindArgs (PySem.W.fnOf x q (defArgs st) (defBody st) (defScope st) .none kV doc pm an cdv ct) ⟨us, []⟩ = pure (ps.zip us)
/-- what the texts of the defs are known to be -/
structure DIok (L : LS) (d : DI) : Prop where
  S : FnScope d.N d.ps (defScope d.st)
  ck : ∃ n, ckSs L n ⟨d.N, (defScope d.st).names, (defScope d.st).names⟩ (defBody d.st) d.fn.body = true
  nv : d.fn.nv = d.N.length
  np : d.fn.np = d.ps.length
  bd : Bd d.name d.name d.st d.ps
structure XIok (D : LD) (x : XI) : Prop where
  S : FnScope ["self", x.f] ["self", x.f] (defScope x.st)
  B : IniBody (D.cs.getD D.base Str.empty) x.f (defBody x.st)
  bd : ∀ q, Bd "__init__" q x.st ["self", x.f]
  c : x.c < D.cs.length
  nm : D.cs.getD x.c Str.empty = x.x
  ef : D.fl.getD x.c [] = [x.f]
  hfd : (x.f == ("__debug__" : Str)) = false
  hfc : (x.f == ("__classdict__" : Str)) = false
  hx : (defScope x.st).names.lookup (D.cs.getD D.base Str.empty) = some .globalImplicit
  hs : (defScope x.st).names.lookup ("self" : Str) = some .local
  hf : (defScope x.st).names.lookup x.f = some .local
structure LDok (D : LD) : Prop where
  ds : ∀ d ∈ D.ds, DIok D.L d
  xs : ∀ x ∈ D.xs, XIok D x
  fn : ∀ x f, D.L.fn.lookup x = some f → ∃ d, D.ds[f]? = some d ∧ d.name = x
  xc : ∀ x c f, D.L.xc.lookup x = some (c, f) → ∃ i ∈ D.xs, i.c = c ∧ i.x = x ∧ i.f = f
  cl : ∀ x c, D.L.cl.lookup x = some c → c ∈ D.cls ∧ (match c with | .own i => i < D.cs.length ∧ D.cs.getD i Str.empty = x | .ty n => bootBuiltins x = some (.type n))
  hd : (D.cs.getD D.base Str.empty == ("__debug__" : Str)) = false
  lt : D.base < D.cs.length
/-- what the module's names are known to be -/
structure MgOk (D : LD) (K : PySem.W.Frag) (mg : Str → Option Value) : Prop where
  cs : ∀ c, c < D.cs.length → mg (D.cs.getD c Str.empty) = some (.ref (D.cad K c))
  ds : ∀ d ∈ D.ds, ∃ a fd, mg d.name = some (.ref a) ∧ PySem.W.keepIn K (.ref a) = true ∧ Fun K d.name d.name d.st a fd
  xs : ∀ x ∈ D.xs, ∃ q fd, Fun K "__init__" q x.st (He.ma K (D.cad K x.c) "__init__") fd
  ty : ∀ x n, D.L.cl.lookup x = some (.ty n) → mg x = none
  con : ∀ x v, D.L.con.lookup x = some v → ∃ u hv, mg x = some u ∧ RelV hv u ∧ (∀ (Γ : SG) H, RV Γ H v hv)
  free : ∀ x, x ∈ D.L.free → mg x = none
section
variable {D : LD} {P : Program} {w : World} {K : PySem.W.Frag} {mg : Str → Option Value} {base : Heap} {ns : List Int} {a : Addr}
theorem cl_mem {cl : Cl} {l : List Cl} (h : cl ∈ l) : l.any (eqCl cl) = true := List.any_eq_true.mpr ⟨cl, h, by cases cl <;> simp [eqCl]⟩
theorem fl_of (ok : LDok D) (kx : KX D K) (m : MgOk D K mg) {C : Calls} {k : Nat} (hfn : ∀ x f, D.L.fn.lookup x = some f → FT (D.sg P w K mg base ns a) C k f x) : FL (D.sg P w K mg base ns a) D.L C k where
  K := gk_of kx
  fn := hfn
  xc := fun x c f h => by
    obtain ⟨i, hi, rfl, rfl, rfl⟩ := ok.xc x c f h
    have o := ok.xs i hi
    obtain ⟨q, fd, F⟩ := m.xs i hi
    obtain ⟨i1, i2⟩ := kx.ini i hi
    refine ⟨?_, (kx.ec _ o.c).1, ⟨_, fd, i1, i2, ?_, F.binds (o.bd q)⟩, o.ef, decide_eq_true o.c⟩
    · have := m.cs i.c o.c
      rw [o.nm] at this
      exact this
    · exact ok_ini F o.S o.B kx.tag (m.cs _ ok.lt) (kx.ec _ o.c).1 (kx.nf _ _ o.c (by show i.f ∈ D.fl.getD i.c []; rw [o.ef]; simp)) ok.hd o.hfd o.hfc o.hx o.hs o.hf
  cl := fun x c h => by
    obtain ⟨h1, h2⟩ := ok.cl x c h
    refine ⟨cl_mem h1, ?_⟩
    cases c with
    | own i =>
      have := m.cs i h2.1
      rw [h2.2] at this
      exact this
    | ty n => exact ⟨m.ty x n h, h2⟩
  con := fun x v h => by
    obtain ⟨u, hv, h1, h2, h3⟩ := m.con x v h
    exact ⟨u, hv, h1, h2, h3 _⟩
  free := m.free
/-- every def keeps its promise, whatever the depth -/
theorem ft_all (ok : LDok D) (kx : KX D K) (m : MgOk D K mg) : ∀ (dep : Nat) x f, D.L.fn.lookup x = some f → FT (D.sg P w K mg base ns a) (wpC (D.G ns) D.tbl dep) (dep + 2) f x
  | 0, x, f, h => by
    obtain ⟨d, e, rfl⟩ := ok.fn x f h
    have hd := List.mem_of_getElem? e
    obtain ⟨ad, fd, g1, g2, F⟩ := m.ds d hd
    refine ⟨ad, fd, d.ps, g1, g2, F.binds (ok.ds d hd).bd, ⟨fun vs H Q E ⟨_, _, _, _, _, _, z, _⟩ => False.elim z, fun A outer s H us vs Q E _ _ _ _ _ ⟨_, _, _, _, _, _, z, _⟩ => False.elim z⟩⟩
  | dep + 1, x, f, h => by
    obtain ⟨d, e, rfl⟩ := ok.fn x f h
    have hd := List.mem_of_getElem? e
    obtain ⟨ad, fd, g1, g2, F⟩ := m.ds d hd
    have o := ok.ds d hd
    refine ⟨ad, fd, d.ps, g1, g2, F.binds o.bd, ?_⟩
    obtain ⟨n, ck⟩ := o.ck
    have fl := fl_of (P := P) (w := w) (base := base) (ns := ns) (a := a) ok kx m (ft_all ok kx m dep)
    exact ok_def (C := wpC (D.G ns) D.tbl dep) (Γ := D.sg P w K mg base ns a) (tbl := D.tbl) (fn := d.fn) (d := dep) F o.S (by unfold LD.tbl; rw [e]; rfl) o.nv o.np fun W X g => (soundS fl (by omega) n).ss rfl ck g
/-- the law's call -/
theorem law_mp {mb : Str → Option Value} {s1 : Shared} {vs : List Value} (ok : LDok D) (kx : KX D K) (KI : K.In s1.heap) (m : MgOk D K mg) (gl : s1.heap.Ns mainGlobals mg) (bl : s1.heap.Ns builtinsNs mb) (bb : ∀ x : Str, x ≠ "__name__" → mb x = bootBuiltins x) (lim : s1.heap.NoLimit) (gens : s1.gens = #[])
    (ha : s1.heap.get? a = some (sob vs)) (hi : IntsAre vs ns) (hl : ns.length ≤ sizeLine) {x : Str} {fa : Addr} (hx : D.L.fn.lookup x = some D.law) (hmg : mg x = some (.ref fa))
    (pure_ : ∃ dep, dep ≤ 200 ∧ wpC (D.G ns) D.tbl dep D.law [.scr] (fun _ => none) (fun v _ => v = .bool true) (fun _ _ => False)) :
    codeAny (model P w) callerA (.call (.ref fa) ⟨[.ref a], []⟩) (fun r s' => r = .ok (.ret (.bool true)) ∧ OldK s1.heap s'.heap ∧ s'.os = s1.os ∧ AllBare s'.gens) s1 := by
  obtain ⟨dep, hdep, pq⟩ := pure_
  obtain ⟨H, base, hO, hS, hok, kb, nb, e0⟩ := start_top (P := P) (w := w) (mg := mg) KI gl bl bb lim gens ha hi hl
  obtain ⟨ad, fd, ps, f1, f2, f3, f4⟩ := (ft_all (P := P) (w := w) (base := base) (ns := ns) (a := a) ok kx m dep x D.law hx).ok
  have e1 : mg x = some (.ref ad) := f1
  rw [hmg] at e1
  cases e1
  have sp : spOf (D.sg P w K mg base ns a) (wpC (D.G ns) D.tbl dep) D.law [.ref a] H (fun v _ => v = V.bl true) (fun _ _ _ => False) := by
    refine ⟨[.scr], fun _ => none, _, _, ⟨hS.imp (fun r => ⟨rfl, r⟩) id, fun b o z => by cases z⟩, .cons .scr .nil, pq, fun v M' u H' q r sm st => ?_, fun e M' H' cls d z _ _ _ => z.elim⟩
    have q' : v = .bool true := q
    subst q'
    cases r
    rfl
  have hl1 := f4.len _ _ _ _ sp
  refine codeAny_mono (f4.go callerA [] s1 H [.ref a] [.ref a] _ _ rfl ⟨rfl, ?_, ?_⟩ e0 ?_ (.cons rfl .nil) sp) fun r s' h => end_top hO hok r s' h
  · show callerA.depth + 3 * (dep + 2) + 5 < recursionLimit
    have : callerA.depth + 3 * (200 + 2) + 5 < recursionLimit := by decide
    omega
  · show callerA.units + 16 * (dep + 2) + 200 < cLine
    have : callerA.units + 16 * (200 + 2) + 200 < cLine := by decide
    omega
  · have b := f3 s1 [.ref a] KI (by rw [List.append_nil]; exact hl1)
    rw [List.append_nil] at b
    exact b
end
/-- THE END, from the pure law -/
theorem walk_mp {l : PySem.W.OpenLaw} {n : Nat} {q : Program} {loose : List Str} {XP : (Str → Option Value) → Heap → Prop} {d : DefRec} {D : LD} {nh : Nat} {fa : List He.Fa} {fn : List He.DefD}
    (hn : l.most = some n) (hn2 : n ≤ sizeLine) (hdf : d.params.defaults = []) (ok : LDok D) (hx : D.L.fn.lookup d.name = some D.law)
    (hm : ∀ {K : PySem.W.Frag} {h : Heap} {mg : Str → Option Value}, K.In h → h.Ns mainGlobals mg → He.SaysD fa fn K → MgOk D K mg)
    (pure_ : ∀ ns : List Int, ns.length ≤ n → ∃ dep, dep ≤ 200 ∧ wpC (D.G ns) D.tbl dep D.law [.scr] (fun _ => none) (fun v _ => v = .bool true) (fun _ _ => False)) :
    PySem.W.WalkO q loose XP (hookM nh fa fn D.ex).says l.row.toRowW d [] (fun f vs => PySem.call f vs) := by
  refine Att.attach_call hn hdf fun w s0 s1 mg mb f o pm cd doc a vs ns G Y ho hd hcd hmg hobj hints hlen hg => ?_
  obtain ⟨K, KI, c, e⟩ := Y
  exact law_mp ok (kx_of e) KI (hm KI G.T.g c) G.T.g G.T.b G.T.builtins G.T.nolimit hg hobj hints (Nat.le_trans hlen hn2) hx hmg (pure_ ns hlen)
end MP
/-! Plain laws of the small language: memory that grows, loops, data. -/
namespace MP
open PySem L2
def Ext (M M' : Mem) : Prop := ∀ a o, M a = some o → M' a = some o
theorem Ext.refl {M : Mem} : Ext M M := fun _ _ h => h
theorem Ext.trans {M M1 M2 : Mem} (h : Ext M M1) (k : Ext M1 M2) : Ext M M2 := fun a o e => k a o (h a o e)
theorem ext_new {M : Mem} {p : Addr} {o : MO} (h : M p = none) : Ext M (mup M p o) := fun a u e => by
  rw [mup_ne (fun z => by rw [z, h] at e; cases e)]
  exact e
/-- the memory without p -/
def Fz (p : Addr) (M : Mem) : Mem := fun a => if a = p then none else M a
theorem fz_at {p a : Addr} {M : Mem} {o : MO} (h : Fz p M a = some o) : M a = some o := by
  unfold Fz at h
  split at h
  · cases h
  · exact h
theorem fz_ext {p : Addr} {M : Mem} : Ext (Fz p M) M := fun _ _ h => fz_at h
theorem fz_mono {p : Addr} {M M' : Mem} (h : Ext M M') : Ext (Fz p M) (Fz p M') := fun a o e => by
  unfold Fz at e ⊢
  split
  · rename_i z; rw [if_pos z] at e; cases e
  · rename_i z; rw [if_neg z] at e; exact h a o e
theorem fz_set {p : Addr} {M : Mem} {o : MO} : Fz p (mup M p o) = Fz p M := by
  funext a
  unfold Fz
  split
  · rfl
  · rename_i z; rw [mup_ne z]
theorem fz_new {p q : Addr} {M : Mem} {o u : MO} (hp : M p = some u) (hq : M q = none) : Fz p (mup M q o) q = some o := by
  unfold Fz
  rw [if_neg (fun z => by rw [z, hp] at hq; cases hq), mup_same]
theorem new_keep {M : Mem} {p q : Addr} {o u : MO} (hp : M p = some u) (hq : M q = none) : mup M q o p = some u := ext_new hq _ _ hp
mutual
theorem Dm.mono {M M' : Mem} (x : Ext M M') : ∀ {v : Val} {d : PyData}, Dm M v d → Dm M' v d
  | _, _, .non => .non
  | _, _, .bl b => .bl b
  | _, _, .int i => .int i
  | _, _, .str s => .str s
  | _, _, .lst e r => .lst (x _ _ e) (DmAll.mono x r)
  | _, _, .tup r => .tup (DmAll.mono x r)
theorem DmAll.mono {M M' : Mem} (x : Ext M M') : ∀ {v : List Val} {d : List PyData}, DmAll M v d → DmAll M' v d
  | _, _, .nil => .nil
  | _, _, .cons h r => .cons (Dm.mono x h) (DmAll.mono x r)
end
theorem DmAll.strs {M : Mem} : ∀ {ts : List Str}, DmAll M (ts.map Val.str) (ts.map PyData.str)
  | [] => .nil
  | t :: r => .cons (.str t) DmAll.strs
theorem DmAll.append {M : Mem} : ∀ {xs ys : List Val} {ds es : List PyData}, DmAll M xs ds → DmAll M ys es → DmAll M (xs ++ ys) (ds ++ es)
  | _, _, _, _, .nil, h => h
  | _, _, _, _, .cons a r, h => .cons a (DmAll.append r h)
theorem DmAll.rep {M : Mem} {v : Val} {d : PyData} (h : Dm M v d) : ∀ n, DmAll M (List.replicate n v) (List.replicate n d)
  | 0 => .nil
  | n + 1 => .cons h (DmAll.rep h n)
/-! ### loops -/
theorem for_ind {step : Val → (Sg → Mem → Prop) → Sg → Mem → Prop} {ok : Mem → Prop} {fin : Sg → Mem → Prop} (I : List Val → Sg → Mem → Prop)
    (hok : ∀ xs σ M, I xs σ M → ok M) (hfin : ∀ σ M, I [] σ M → fin σ M) (hstep : ∀ x xs σ M (k : Sg → Mem → Prop), I (x :: xs) σ M → (∀ σ' M', I xs σ' M' → k σ' M') → step x k σ M) :
    ∀ xs σ M, I xs σ M → forItems step ok fin xs σ M
  | [], σ, M, h => ⟨hok _ _ _ h, hfin σ M h⟩
  | x :: xs, σ, M, h => ⟨hok _ _ _ h, hstep x xs σ M _ h fun σ' M' h' => for_ind I hok hfin hstep xs σ' M' h'⟩
theorem comp_ind {step : Val → (List Val → Mem → Prop) → List Val → Mem → Prop} {ok : Mem → Prop} {fin : List Val → Mem → Prop} (I : List Val → List Val → Mem → Prop)
    (hok : ∀ xs acc M, I xs acc M → ok M) (hfin : ∀ acc M, I [] acc M → fin acc M) (hstep : ∀ x xs acc M (k : List Val → Mem → Prop), I (x :: xs) acc M → (∀ acc' M', I xs acc' M' → k acc' M') → step x k acc M) :
    ∀ xs acc M, I xs acc M → compItems step ok fin xs acc M
  | [], acc, M, h => ⟨hok _ _ _ h, hfin acc M h⟩
  | x :: xs, acc, M, h => ⟨hok _ _ _ h, hstep x xs acc M _ h fun acc' M' h' => comp_ind I hok hfin hstep xs acc' M' h'⟩
theorem wpC_some {G : Glo} {tbl : Nat → Option Fn} {d f : Nat} {fn : Fn} {vs : List Val} {M : Mem} {Q : VK} {X : XK} (e : tbl f = some fn) (hl : vs.length = fn.np)
    (h : wpSs G (wpC G tbl d) fn.body ⟨fun _ M' => Q .none M', Q, fun _ _ => False, fun _ _ => False, fun e _ M' => X e M'⟩ (startS fn.nv vs) M) : wpC G tbl (d + 1) f vs M Q X := by
  show (match tbl f with | some fn => _ | none => False)
  rw [e]
  exact ⟨hl, h⟩
/-! ### the pile of the tests' numbers -/
/-- p is a pile after t takings at most -/
def Pile (M : Mem) (p : Addr) (t : Nat) : Prop := ∃ g m c : Int, M p = some (.lst [.int g, .int m, .int c]) ∧ 0 ≤ g ∧ g < 10 ^ 150 ∧ 0 ≤ m ∧ m < 2147483647 ∧ 0 ≤ c ∧ c ≤ t
theorem Pile.mono {M : Mem} {p : Addr} {t t' : Nat} (h : Pile M p t) (le : t ≤ t') : Pile M p t' := by
  obtain ⟨g, m, c, h1, h2, h3, h4, h5, h6, h7⟩ := h
  exact ⟨g, m, c, h1, h2, h3, h4, h5, h6, by omega⟩
theorem Pile.ext {M M' : Mem} {p : Addr} {t : Nat} (h : Pile M p t) (x : Ext M M') : Pile M' p t := by
  obtain ⟨g, m, c, h1, h2⟩ := h
  exact ⟨g, m, c, x _ _ h1, h2⟩
theorem Pile.at {M : Mem} {p : Addr} {t : Nat} (h : Pile M p t) : ∃ o, M p = some o := by
  obtain ⟨g, m, c, h1, _⟩ := h
  exact ⟨_, h1⟩
/-! ### operators, by rewriting -/
section
variable {G : Glo} {i j : Int} {M : Mem} {Q : VK} {s t : Str} {a b : Addr}
theorem pow_room {n k : Nat} (h : n ≤ 10 ^ 200) (hk : 1000 ≤ k) : n < 2 ^ k := Nat.lt_of_lt_of_le (Nat.lt_of_le_of_lt h (by decide)) (Nat.pow_le_pow_right (by decide) hk)
theorem s_mul (h1 : -(10 ^ 200) ≤ i) (h2 : i ≤ 10 ^ 200) (h3 : -(10 ^ 200) ≤ j) (h4 : j ≤ 10 ^ 200) : sem2 G .mul (.int i) (.int j) M Q = Q (.int (i * j)) M :=
  propext ⟨fun h => h.2.2, fun h => ⟨pow_room (by omega) (by decide), pow_room (by omega) (by decide), h⟩⟩
theorem s_mod (h : 0 < j) : sem2 G .mod (.int i) (.int j) M Q = Q (.int (i % j)) M := propext ⟨fun h => h.2, fun q => ⟨h, q⟩⟩
theorem s_fdiv (h : 0 < j) (h2 : j < 1073741824) : sem2 G .fdiv (.int i) (.int j) M Q = Q (.int (i / j)) M := propext ⟨fun h => h.2.2, fun q => ⟨h, h2, q⟩⟩
theorem s_pow (h : 0 ≤ j) (h2 : j ≤ 1000) (h3 : 0 ≤ i) (h4 : i < 1000) : sem2 G .pow (.int i) (.int j) M Q = Q (.int (i ^ j.toNat)) M :=
  propext ⟨fun h => h.2.2.2, fun q => ⟨h, by omega, Nat.lt_of_lt_of_le (show i.natAbs < 1000 by omega) (by decide), q⟩⟩
theorem s_add : sem2 G .add (.int i) (.int j) M Q = Q (.int (i + j)) M := rfl
theorem s_sub : sem2 G .sub (.int i) (.int j) M Q = Q (.int (i - j)) M := rfl
theorem s_lt : sem2 G .lt (.int i) (.int j) M Q = Q (.bool (decide (i < j))) M := rfl
theorem s_le : sem2 G .le (.int i) (.int j) M Q = Q (.bool (decide (i ≤ j))) M := rfl
theorem s_gt : sem2 G .gt (.int i) (.int j) M Q = Q (.bool (decide (j < i))) M := rfl
theorem s_ge : sem2 G .ge (.int i) (.int j) M Q = Q (.bool (decide (j ≤ i))) M := rfl
theorem s_adds (h : s.length + t.length ≤ 16777216) : sem2 G .add (.str s) (.str t) M Q = Q (.str (s ++ t)) M := propext ⟨fun h => h.2, fun q => ⟨h, q⟩⟩
theorem s_addl {xs ys : List Val} (ha : M a = some (.lst xs)) (hb : M b = some (.lst ys)) (hl : xs.length + ys.length ≤ 16777216) : sem2 G .add (.ref a) (.ref b) M Q = newL (xs ++ ys) M Q :=
  propext ⟨fun h => by simp only [sem2, ha, hb] at h; exact h.2, fun q => by simp only [sem2, ha, hb]; exact ⟨hl, q⟩⟩
theorem s_mull {xs : List Val} {k : Int} (ha : M a = some (.lst xs)) (h1 : 0 ≤ k) (h2 : k ≤ 1000) (hl : xs.length ≤ 1000) : sem2 G .mul (.ref a) (.int k) M Q = newL (List.replicate k.toNat xs).flatten M Q := by
  have hk : k.toNat ≤ 1000 := by omega
  have := Nat.mul_le_mul hl hk
  exact propext ⟨fun h => by simp only [sem2, ha] at h; exact h.2.2.2, fun q => by simp only [sem2, ha]; exact ⟨by omega, by omega, Nat.le_trans this (by decide), q⟩⟩
/-- the equality of data -/
theorem s_eq {x y : Val} {dx dy : PyData} (hx : Dm M x dx) (hy : Dm M y dy) (sx : SeqAt.shaped dx = true) (sy : SeqAt.shaped dy = true) (h : Q (.bool (PyData.eqv dx dy)) M) : sem2 G .eq x y M Q := ⟨dx, dy, hx, hy, sx, sy, h⟩
theorem s_ne {x y : Val} {dx dy : PyData} (hx : Dm M x dx) (hy : Dm M y dy) (sx : SeqAt.shaped dx = true) (sy : SeqAt.shaped dy = true) (h : Q (.bool (!PyData.eqv dx dy)) M) : sem2 G .ne x y M Q := ⟨dx, dy, hx, hy, sx, sy, h⟩
end
theorem sh_int {i : Int} : SeqAt.shaped (.int i) = true := rfl
theorem dm_int {M : Mem} {i : Int} {d : PyData} : Dm M (.int i) d ↔ d = .int i := ⟨fun h => by cases h; rfl, fun h => by rw [h]; exact .int i⟩
theorem dm_none {M : Mem} {d : PyData} : Dm M .none d ↔ d = .none := ⟨fun h => by cases h; rfl, fun h => by rw [h]; exact .non⟩
theorem dm_str {M : Mem} {i : Str} {d : PyData} : Dm M (.str i) d ↔ d = .str i := ⟨fun h => by cases h; rfl, fun h => by rw [h]; exact .str i⟩
theorem s_eqi {G : Glo} {i j : Int} {M : Mem} {Q : VK} : sem2 G .eq (.int i) (.int j) M Q = Q (.bool (decide (i = j))) M := by
  have e : PyData.eqv (.int i) (.int j) = decide (i = j) := by
    simp only [PyData.eqv]
    by_cases h : i = j
    · subst h; simp
    · simp [h]
  refine propext ⟨fun ⟨d, d', h1, h2, _, _, q⟩ => ?_, fun q => s_eq (.int i) (.int j) sh_int sh_int (by rw [e]; exact q)⟩
  rw [dm_int] at h1 h2
  subst h1 h2
  rw [e] at q
  exact q
theorem s_abs {G : Glo} {i : Int} {M : Mem} {Q : VK} : sem1 G .abs (.int i) M Q = Q (.int i.natAbs) M := rfl
theorem s_int {G : Glo} {i : Int} {M : Mem} {Q : VK} : sem1 G .int_ (.int i) M Q = Q (.int i) M := rfl
theorem s_intb {G : Glo} {b : Bool} {M : Mem} {Q : VK} : sem1 G .int_ (.bool b) M Q = Q (.int (if b then 1 else 0)) M := rfl
theorem s_lens {G : Glo} {s : Str} {M : Mem} {Q : VK} (h : s.length ≤ 16777216) : sem1 G .len (.str s) M Q = Q (.int s.length) M := propext ⟨fun h => h.2, fun q => ⟨h, q⟩⟩
theorem s_lenl {G : Glo} {a : Addr} {xs : List Val} {M : Mem} {Q : VK} (h : M a = some (.lst xs)) : sem1 G .len (.ref a) M Q = Q (.int xs.length) M := by simp only [sem1, h]
theorem s_lenc {G : Glo} {M : Mem} {Q : VK} : sem1 G .len .scr M Q = Q (.int G.scr.length) M := rfl
theorem s_atr {G : Glo} {a : Addr} {k : Val} {M : Mem} {Q : VK} : sem2 G .at_ (.ref a) k M Q = atR M a k fun v => Q v M := rfl
theorem s_ats {G : Glo} {s : Str} {i : Int} {M : Mem} {Q : VK} (h : s.length ≤ 16777216) : sem2 G .at_ (.str s) (.int i) M Q = atN s.cps.toList i fun c => Q (.str ⟨#[c]⟩) M := propext ⟨fun h => h.2, fun q => ⟨h, q⟩⟩
theorem s_atc {G : Glo} {i : Int} {M : Mem} {Q : VK} : sem2 G .at_ .scr (.int i) M Q = atN G.scr i fun v => Q (.int v) M := rfl
theorem atR_l {a : Addr} {k : Int} {M : Mem} {Q : Val → Prop} : atR M a (.int k) Q = (match M a with | some (.lst xs) => atN xs k Q | some (.dct kvs) => atD kvs (.int k) Q | _ => False) := rfl
theorem atN_ok {α : Type} {xs : List α} {k : Int} {v : α} {Q : α → Prop} (h0 : 0 ≤ k) (h : xs[k.toNat]? = some v) (q : Q v) : atN xs k Q := by
  have hl : k.toNat < xs.length := by
    rcases Nat.lt_or_ge k.toNat xs.length with z | z
    · exact z
    · rw [List.getElem?_eq_none z] at h; cases h
  unfold atN posIx
  rw [if_pos h0, if_pos (by omega)]
  simp only [h]
  exact q
theorem atN_0 {α : Type} {x : α} {r : List α} {Q : α → Prop} : atN (x :: r) 0 Q = Q x := by
  have e : posIx (x :: r).length 0 = some 0 := by unfold posIx; rw [if_pos (by omega), if_pos (by simp only [List.length_cons]; omega)]; rfl
  unfold atN
  rw [e]
  rfl
theorem atN_1 {α : Type} {x y : α} {r : List α} {Q : α → Prop} : atN (x :: y :: r) 1 Q = Q y := by
  have e : posIx (x :: y :: r).length 1 = some 1 := by unfold posIx; rw [if_pos (by omega), if_pos (by simp only [List.length_cons]; omega)]; rfl
  unfold atN
  rw [e]
  rfl
theorem atN_2 {α : Type} {x y z : α} {r : List α} {Q : α → Prop} : atN (x :: y :: z :: r) 2 Q = Q z := by
  have e : posIx (x :: y :: z :: r).length 2 = some 2 := by unfold posIx; rw [if_pos (by omega), if_pos (by simp only [List.length_cons]; omega)]; rfl
  unfold atN
  rw [e]
  rfl
theorem s_set {a : Addr} {i v : Val} {M : Mem} {Q : Mem → Prop} : semSet (.ref a) i v M Q = (match M a with
  | some (.lst xs) => setL M a xs i v Q
  | some (.dct kvs) => isKey i = true ∧ kvs.length < sizeLine ∧ Q (mup M a (.dct (setK i v kvs)))
  | _ => False) := rfl
theorem setL_0 {a : Addr} {v x : Val} {r : List Val} {M : Mem} {Q : Mem → Prop} : setL M a (x :: r) (.int 0) v Q = Q (mup M a (.lst (v :: r))) := by
  have e : posIx (x :: r).length 0 = some 0 := by unfold posIx; rw [if_pos (by omega), if_pos (by simp only [List.length_cons]; omega)]; rfl
  unfold setL
  simp only [e]
  rfl
theorem setL_2 {a : Addr} {v x y z : Val} {r : List Val} {M : Mem} {Q : Mem → Prop} : setL M a (x :: y :: z :: r) (.int 2) v Q = Q (mup M a (.lst (x :: y :: v :: r))) := by
  have e : posIx (x :: y :: z :: r).length 2 = some 2 := by unfold posIx; rw [if_pos (by omega), if_pos (by simp only [List.length_cons]; omega)]; rfl
  unfold setL
  simp only [e]
  rfl
theorem s_addr {G : Glo} {a b : Addr} {M : Mem} {Q : VK} : sem2 G .add (.ref a) (.ref b) M Q = (match M a, M b with | some (.lst xs), some (.lst ys) => xs.length + ys.length ≤ sizeLine ∧ newL (xs ++ ys) M Q | _, _ => False) := rfl
theorem s_lenr {G : Glo} {a : Addr} {M : Mem} {Q : VK} : sem1 G .len (.ref a) M Q = (match M a with | some (.lst xs) => Q (.int xs.length) M | some (.dct kvs) => Q (.int kvs.length) M | _ => False) := rfl
theorem tb_bool {G : Glo} {M : Mem} {b : Bool} : truthB G M (.bool b) = some b := rfl
/-- what if asks of a bool -/
theorem tb_dec {p : Prop} [Decidable p] {A B : Prop} (h1 : p → A) (h2 : ¬ p → B) : (match (some (decide p) : Option Bool) with | some true => A | some false => B | none => False) := by
  by_cases h : p
  · simp only [h, decide_true]; exact h1 h
  · simp only [h, decide_false]; exact h2 h
theorem tb_ite {b : Bool} {A B : Prop} (h1 : b = true → A) (h2 : b = false → B) : (match (some b : Option Bool) with | some true => A | some false => B | none => False) := by
  cases b
  · exact h2 rfl
  · exact h1 rfl
theorem comp_idx {step : Val → (List Val → Mem → Prop) → List Val → Mem → Prop} {ok : Mem → Prop} {fin : List Val → Mem → Prop} {items : List Val} (I : Nat → List Val → Mem → Prop) {acc : List Val} {M : Mem} (h0 : I 0 acc M)
    (hok : ∀ i acc M, I i acc M → ok M) (hstep : ∀ i x acc M (k : List Val → Mem → Prop), items[i]? = some x → I i acc M → (∀ acc' M', I (i + 1) acc' M' → k acc' M') → step x k acc M) (hfin : ∀ acc M, I items.length acc M → fin acc M) :
    compItems step ok fin items acc M := by
  refine comp_ind (fun xs acc M => ∃ i, xs = items.drop i ∧ i ≤ items.length ∧ I i acc M) (fun xs acc M ⟨i, _, _, h⟩ => hok i acc M h) (fun acc M ⟨i, e, hl, h⟩ => ?_) (fun x xs acc M k ⟨i, e, hl, h⟩ hk => ?_) items acc M ⟨0, rfl, Nat.zero_le _, h0⟩
  · have : items.length ≤ i := List.drop_eq_nil_iff.mp e.symm
    have : i = items.length := by omega
    subst this
    exact hfin acc M h
  · have hlt : i < items.length := by
      rcases Nat.lt_or_ge i items.length with z | z
      · exact z
      · rw [List.drop_eq_nil_of_le z] at e; cases e
    rw [List.drop_eq_getElem_cons hlt] at e
    cases e
    exact hstep i _ acc M k (List.getElem?_eq_getElem hlt) h fun acc' M' h' => hk acc' M' ⟨i + 1, rfl, hlt, h'⟩
theorem for_idx {step : Val → (Sg → Mem → Prop) → Sg → Mem → Prop} {ok : Mem → Prop} {fin : Sg → Mem → Prop} {items : List Val} (I : Nat → Sg → Mem → Prop) {σ : Sg} {M : Mem} (h0 : I 0 σ M)
    (hok : ∀ i σ M, I i σ M → ok M) (hstep : ∀ i x σ M (k : Sg → Mem → Prop), items[i]? = some x → I i σ M → (∀ σ' M', I (i + 1) σ' M' → k σ' M') → step x k σ M) (hfin : ∀ σ M, I items.length σ M → fin σ M) :
    forItems step ok fin items σ M := by
  refine for_ind (fun xs σ M => ∃ i, xs = items.drop i ∧ i ≤ items.length ∧ I i σ M) (fun xs σ M ⟨i, _, _, h⟩ => hok i σ M h) (fun σ M ⟨i, e, hl, h⟩ => ?_) (fun x xs σ M k ⟨i, e, hl, h⟩ hk => ?_) items σ M ⟨0, rfl, Nat.zero_le _, h0⟩
  · have : items.length ≤ i := List.drop_eq_nil_iff.mp e.symm
    have : i = items.length := by omega
    subst this
    exact hfin σ M h
  · have hlt : i < items.length := by
      rcases Nat.lt_or_ge i items.length with z | z
      · exact z
      · rw [List.drop_eq_nil_of_le z] at e; cases e
    rw [List.drop_eq_getElem_cons hlt] at e
    cases e
    exact hstep i _ σ M k (List.getElem?_eq_getElem hlt) h fun σ' M' h' => hk σ' M' ⟨i + 1, rfl, hlt, h'⟩
theorem rng_len {lo : Int} {n : Nat} : (rngI lo n).length = n := by simp [rngI]
theorem rng_get {lo : Int} {n i : Nat} {x : Val} (h : (rngI lo n)[i]? = some x) : i < n ∧ x = .int (lo + (i : Int)) := by
  unfold rngI at h
  rw [List.getElem?_map] at h
  cases e : (List.range n)[i]? with
  | none => rw [e] at h; cases h
  | some j =>
    rw [e] at h
    obtain ⟨h1, h2⟩ := List.getElem?_eq_some_iff.mp e
    rw [List.getElem_range] at h2
    rw [List.length_range] at h1
    subst h2
    cases h
    exact ⟨h1, rfl⟩
theorem s_rng {v : Int} {M : Mem} {R : Src → Mem → Prop} (h : -(10 ^ 15) ≤ v) (h2 : v ≤ 10 ^ 15) : semR1 (.int v) M R = R ⟨fun _ => True, rngI 0 v.toNat⟩ M := propext ⟨fun h => h.2, fun q => ⟨⟨by omega, by omega⟩, q⟩⟩
theorem s_mulb {G : Glo} {i : Int} {b : Bool} {M : Mem} {Q : VK} (h1 : -(10 ^ 200) ≤ i) (h2 : i ≤ 10 ^ 200) : sem2 G .mul (.int i) (.int (if b then 1 else 0)) M Q = Q (.int (i * if b then 1 else 0)) M :=
  propext ⟨fun h => h.2.2, fun q => by cases b <;> exact ⟨pow_room (by omega) (by decide), pow_room (by decide) (by decide), q⟩⟩
theorem str_app (s t : Str) : (s ++ t).cps = s.cps ++ t.cps := rfl
theorem str_ext {s t : Str} (h : s.cps.toList = t.cps.toList) : s = t := by
  obtain ⟨⟨a⟩⟩ := s
  obtain ⟨⟨b⟩⟩ := t
  have h : a = b := h
  rw [h]
theorem cutL_map {α β : Type} (f : α → β) (xs : List α) (l h : Option Int) : cutL (xs.map f) l h = (cutL xs l h).map f := by
  unfold cutL
  rw [List.length_map, ← List.map_drop, ← List.map_take]
theorem textsOf_map : ∀ ts : List Str, textsOf (ts.map Val.str) = some ts
  | [] => rfl
  | t :: r => by simp only [List.map_cons, textsOf, textsOf_map r, Option.map_some]
theorem boolsOf_map : ∀ ts : List Bool, boolsOf (ts.map Val.bool) = some ts
  | [] => rfl
  | t :: r => by simp only [List.map_cons, boolsOf, boolsOf_map r, Option.map_some]
def lowS (s : Str) : Bool := s.cps.toList.all fun c => decide (97 ≤ c) && decide (c ≤ 122)
/-- tags as the tests draw them -/
structure GoodTags (ts : List Str) : Prop where
  nd : ts.Nodup
  nm : ∀ t ∈ ts, 1 ≤ t.length ∧ t.length ≤ 8 ∧ lowS t = true
  ne : 1 ≤ ts.length
  le : ts.length ≤ 6
def goodB (ts : List Str) : Bool := decide ts.Nodup && (ts.all (fun t => decide (1 ≤ t.length) && (decide (t.length ≤ 8) && lowS t)) && (decide (1 ≤ ts.length) && decide (ts.length ≤ 6)))
theorem goodB_ok {ts : List Str} (h : goodB ts = true) : GoodTags ts := by
  obtain ⟨h1, h⟩ := and2 h
  obtain ⟨h2, h⟩ := and2 h
  obtain ⟨h3, h4⟩ := and2 h
  refine ⟨of_decide_eq_true h1, fun t ht => ?_, of_decide_eq_true h3, of_decide_eq_true h4⟩
  have := List.all_eq_true.mp h2 t ht
  obtain ⟨a, b⟩ := and2 this
  obtain ⟨b, c⟩ := and2 b
  exact ⟨of_decide_eq_true a, of_decide_eq_true b, c⟩
theorem lowS_app {s t : Str} : lowS (s ++ t) = (lowS s && lowS t) := by
  unfold lowS
  rw [str_app, Array.toList_append, List.all_append]
theorem ext_eq {M M' : Mem} (h : M' = M) : Ext M M' := by rw [h]; exact Ext.refl
def one (c : Nat) : Str := ⟨#[c]⟩
theorem one_len (cs : List Nat) : ((cs.map one).map (·.length)).sum = cs.length := by
  induction cs with
  | nil => rfl
  | cons c r ih => simp only [List.map_cons, List.sum_cons, ih, List.length_cons]; show 1 + _ = _; omega
theorem join_one (cs : List Nat) : (Txt.join "" (cs.map one)).cps.toList = cs := by
  rw [TL.join_eq]
  have := TL.tl_join "" (cs.map one)
  have e : ∀ l : List Nat, TL.joinL (TL.tl "") (l.map fun c => [c]) = l := by
    intro l
    induction l with
    | nil => rfl
    | cons c r ih =>
      cases r with
      | nil => rfl
      | cons c' r => show [c] ++ (TL.tl "" ++ TL.joinL (TL.tl "") ((c' :: r).map fun c => [c])) = _; rw [ih]; rfl
  have h2 : (cs.map one).map TL.tl = cs.map fun c => [c] := by rw [List.map_map]; rfl
  rw [h2, e] at this
  exact this
theorem s_slice {s : Str} {l h : Option Int} {M : Mem} {Q : VK} (hs : s.length ≤ 16777216) : semSlice (.str s) l h M Q = Q (.str (L2.cutS s l h)) M := propext ⟨fun h => h.2, fun q => ⟨hs, q⟩⟩
theorem s_slicer {a : Addr} {l h : Option Int} {M : Mem} {Q : VK} : semSlice (.ref a) l h M Q = (match M a with | some (.lst xs) => newL (cutL xs l h) M Q | _ => False) := rfl
theorem str_len (s : Str) : s.length = s.cps.toList.length := by simp [Str.length]
theorem cutS_le {s : Str} {l h : Option Int} : (L2.cutS s l h).length ≤ s.length := by
  rw [str_len, str_len s]
  unfold L2.cutS
  simp only [List.length_take, List.length_drop]
  omega
theorem app_len {s t : Str} : (s ++ t).length = s.length + t.length := by
  rw [str_len, str_len s, str_len t, str_app, Array.toList_append, List.length_append]
end MP
/-! Small data. -/
namespace MP
open PySem L2 PySem.PyData
/-- d is data of weight n and depth dp at most, no dict in it -/
structure Sm (n dp : Nat) (d : PyData) : Prop where
  lay : d.canLay0 = true
  dep : d.depth ≤ dp
  wt : d.weight ≤ n
  int : d.intsShort 13 = true
  sho : d.showable = true
  dic : d.hasDict = false
structure SmL (n dp : Nat) (ds : List PyData) : Prop where
  lay : PyData.canLayAll0 ds = true
  dep : PyData.depthAll ds ≤ dp
  wt : PyData.weightAll ds ≤ n
  int : PyData.intsShortAll 13 ds = true
  sho : PyData.showableAll ds = true
  dic : PyData.hasDictAll ds = false
theorem Sm.shaped {n dp : Nat} {d : PyData} (h : Sm n dp d) (hd : dp ≤ 64) : SeqAt.shaped d = true := by
  unfold SeqAt.shaped
  rw [h.lay, Bool.true_and]
  exact decide_eq_true (Nat.le_trans h.dep hd)
theorem Sm.len {n dp : Nat} {d : PyData} (h : Sm n dp d) (hd : dp ≤ 64) (hn : n ≤ 1048576) : d.shown.length ≤ sizeLine := by
  refine Nat.le_trans (PyProof.Rows.shown_le13 ?_ h.int) (by decide)
  unfold PyData.layable0
  rw [h.lay, Bool.true_and, Bool.and_eq_true_iff]
  exact ⟨decide_eq_true (Nat.le_trans h.dep hd), decide_eq_true (Nat.le_trans h.wt hn)⟩
theorem Sm.mono {n dp n' dp' : Nat} {d : PyData} (h : Sm n dp d) (h1 : n ≤ n') (h2 : dp ≤ dp') : Sm n' dp' d := ⟨h.lay, Nat.le_trans h.dep h2, Nat.le_trans h.wt h1, h.int, h.sho, h.dic⟩
theorem SmL.mono {n dp n' dp' : Nat} {d : List PyData} (h : SmL n dp d) (h1 : n ≤ n') (h2 : dp ≤ dp') : SmL n' dp' d := ⟨h.lay, Nat.le_trans h.dep h2, Nat.le_trans h.wt h1, h.int, h.sho, h.dic⟩
theorem SmL.nil {n dp : Nat} : SmL n dp [] := ⟨rfl, Nat.zero_le _, Nat.zero_le _, rfl, rfl, rfl⟩
theorem SmL.cons {m n dp : Nat} {d : PyData} {ds : List PyData} (h : Sm m dp d) (r : SmL n dp ds) : SmL (m + 1 + n) dp (d :: ds) where
  lay := by simp only [PyData.canLayAll0, h.lay, r.lay, Bool.and_self]
  dep := by simp only [PyData.depthAll]; exact Nat.max_le.mpr ⟨h.dep, r.dep⟩
  wt := by simp only [PyData.weightAll]; have := h.wt; have := r.wt; omega
  int := by simp only [PyData.intsShortAll, h.int, r.int, Bool.and_self]
  sho := by simp only [PyData.showableAll, h.sho, r.sho, Bool.and_self]
  dic := by simp only [PyData.hasDictAll, h.dic, r.dic, Bool.or_self]
theorem SmL.head {n dp : Nat} {d : PyData} {ds : List PyData} (h : SmL n dp (d :: ds)) : Sm n dp d := by
  obtain ⟨h1, h2, h3, h4, h5, h6⟩ := h
  simp only [PyData.canLayAll0, Bool.and_eq_true] at h1
  simp only [PyData.depthAll] at h2
  simp only [PyData.weightAll] at h3
  simp only [PyData.intsShortAll, Bool.and_eq_true] at h4
  simp only [PyData.showableAll, Bool.and_eq_true] at h5
  simp only [PyData.hasDictAll, Bool.or_eq_false_iff] at h6
  exact ⟨h1.1, (Nat.max_le.mp h2).1, by omega, h4.1, h5.1, h6.1⟩
theorem SmL.tail {n dp : Nat} {d : PyData} {ds : List PyData} (h : SmL n dp (d :: ds)) : SmL n dp ds := by
  obtain ⟨h1, h2, h3, h4, h5, h6⟩ := h
  simp only [PyData.canLayAll0, Bool.and_eq_true] at h1
  simp only [PyData.depthAll] at h2
  simp only [PyData.weightAll] at h3
  simp only [PyData.intsShortAll, Bool.and_eq_true] at h4
  simp only [PyData.showableAll, Bool.and_eq_true] at h5
  simp only [PyData.hasDictAll, Bool.or_eq_false_iff] at h6
  exact ⟨h1.2, (Nat.max_le.mp h2).2, by omega, h4.2, h5.2, h6.2⟩
theorem SmL.append {m n dp : Nat} : ∀ {ds es : List PyData}, SmL m dp ds → SmL n dp es → SmL (m + n) dp (ds ++ es)
  | [], es, _, h => h.mono (by omega) (Nat.le_refl _)
  | d :: ds, es, h, k => by
    have r := (SmL.append h.tail k)
    refine ⟨?_, ?_, ?_, ?_, ?_, ?_⟩
    · simp only [List.cons_append, PyData.canLayAll0, h.head.lay, r.lay, Bool.and_self]
    · simp only [List.cons_append, PyData.depthAll]; exact Nat.max_le.mpr ⟨h.head.dep, r.dep⟩
    · have w : PyData.weightAll (ds ++ es) = PyData.weightAll ds + PyData.weightAll es := by
        clear r h
        induction ds with
        | nil => simp [PyData.weightAll]
        | cons x xs ih => simp only [List.cons_append, PyData.weightAll, ih]; omega
      have h3 := h.wt
      have k3 := k.wt
      simp only [List.cons_append, PyData.weightAll] at h3 ⊢
      omega
    · simp only [List.cons_append, PyData.intsShortAll, h.head.int, r.int, Bool.and_self]
    · simp only [List.cons_append, PyData.showableAll, h.head.sho, r.sho, Bool.and_self]
    · simp only [List.cons_append, PyData.hasDictAll, h.head.dic, r.dic, Bool.or_self]
theorem SmL.rep {m dp : Nat} {d : PyData} (h : Sm m dp d) : ∀ n, SmL (n * (m + 1)) dp (List.replicate n d)
  | 0 => SmL.nil
  | n + 1 => (SmL.cons h (SmL.rep h n)).mono (by rw [Nat.succ_mul]; omega) (Nat.le_refl _)
theorem Sm.list {n dp : Nat} {ds : List PyData} (h : SmL n dp ds) : Sm n (dp + 1) (.list ds) := ⟨h.lay, Nat.succ_le_succ h.dep, h.wt, h.int, h.sho, h.dic⟩
theorem Sm.tup {n dp : Nat} {ds : List PyData} (h : SmL n dp ds) : Sm n (dp + 1) (.tuple ds) := ⟨h.lay, Nat.succ_le_succ h.dep, h.wt, h.int, h.sho, h.dic⟩
theorem Sm.items {n dp : Nat} {ds : List PyData} (h : Sm n (dp + 1) (.list ds)) : SmL n dp ds := ⟨h.lay, Nat.le_of_succ_le_succ h.dep, h.wt, h.int, h.sho, h.dic⟩
theorem SmL.mem {n dp : Nat} : ∀ {ds : List PyData} {d : PyData}, SmL n dp ds → d ∈ ds → Sm n dp d
  | _ :: _, d, h, hd => by
    rcases List.mem_cons.mp hd with e | e
    · rw [e]; exact h.head
    · exact SmL.mem h.tail e
theorem Sm.none {n dp : Nat} : Sm n dp .none := ⟨rfl, Nat.zero_le _, Nat.zero_le _, rfl, rfl, rfl⟩
theorem Sm.zero {n dp : Nat} : Sm n dp (.int 0) := ⟨rfl, Nat.zero_le _, Nat.zero_le _, by decide +kernel, by decide +kernel, rfl⟩
theorem Sm.str {n dp : Nat} {s : Str} (h : strOk s = true) (hl : s.length ≤ n) : Sm n dp (.str s) := ⟨h, Nat.zero_le _, hl, rfl, rfl, rfl⟩
theorem SmL.strs {b dp : Nat} : ∀ {ts : List Str}, (∀ t ∈ ts, strOk t = true ∧ t.length ≤ b) → SmL (ts.length * (b + 1)) dp (ts.map PyData.str)
  | [], _ => SmL.nil
  | t :: r, h => by
    have h1 := h t List.mem_cons_self
    have := SmL.cons (Sm.str (dp := dp) h1.1 h1.2) (SmL.strs (dp := dp) fun t ht => h t (List.mem_cons_of_mem _ ht))
    exact this.mono (by simp only [List.length_cons, Nat.succ_mul]; omega) (Nat.le_refl _)
theorem low_ok {s : Str} (h : lowS s = true) : strOk s = true := by
  unfold strOk
  rw [← Array.all_toList]
  refine List.all_eq_true.mpr fun c hc => ?_
  have := List.all_eq_true.mp h c hc
  simp only [Bool.and_eq_true, decide_eq_true_eq] at this
  exact decide_eq_true (by omega)
theorem ok_app {s t : Str} (h : strOk s = true) (k : strOk t = true) : strOk (s ++ t) = true := by
  unfold strOk at h k ⊢
  rw [← Array.all_toList] at h k ⊢
  rw [str_app, Array.toList_append, List.all_append, h, k]
  rfl
/-! ### kinds -/
def isStrD : PyData → Bool
  | .str _ => true
  | _ => false
def isListD : PyData → Bool
  | .list _ => true
  | _ => false
theorem isB_str {G : Glo} {M : Mem} {v : Val} {d : PyData} (h : Dm M v d) : isB G M (.ty "str") v = some (isStrD d) := by
  cases h <;> first | rfl | (rename_i e _; simp only [isB, e]; rfl)
theorem isB_list {G : Glo} {M : Mem} {v : Val} {d : PyData} (h : Dm M v d) : isB G M (.ty "list") v = some (isListD d) := by
  cases h <;> first | rfl | (rename_i e _; simp only [isB, e]; rfl)
theorem isCl_one {G : Glo} {M : Mem} {x : Val} {c : Cl} : isCl G M x [c] = isB G M c x := by
  simp only [isCl]
  cases isB G M c x <;> simp
theorem s_not {G : Glo} {b : Bool} {M : Mem} {Q : VK} : sem1 G .not_ (.bool b) M Q = Q (.bool (!b)) M :=
  propext ⟨fun ⟨c, e, q⟩ => by cases e; exact q, fun q => ⟨b, rfl, q⟩⟩
theorem s_isN {G : Glo} {x : Val} {M : Mem} {Q : VK} : sem1 G .isN x M Q = Q (.bool (match x with | .none => true | _ => false)) M := rfl
theorem s_notN {G : Glo} {x : Val} {M : Mem} {Q : VK} : sem1 G .notN x M Q = Q (.bool (match x with | .none => false | _ => true)) M := rfl
theorem s_tupr {G : Glo} {a : Addr} {M : Mem} {Q : VK} : sem1 G .tuple_ (.ref a) M Q = (match M a with | some (.lst xs) => Q (.tup xs) M | _ => False) := rfl
theorem s_allr {G : Glo} {a : Addr} {M : Mem} {Q : VK} : sem1 G .all_ (.ref a) M Q = (match M a with | some (.lst xs) => (match boolsOf xs with | some bs => Q (.bool (bs.all id)) M | _ => False) | _ => False) := rfl
theorem s_ins {G : Glo} {i j : Str} {M : Mem} {Q : VK} : sem2 G .in_ (.str i) (.str j) M Q = Q (.bool (!(Builtin.Str.occurrences j i 0 j.length 1).isEmpty)) M := rfl
theorem s_eqs {G : Glo} {i j : Str} {M : Mem} {Q : VK} (hi : strOk i = true) (hj : strOk j = true) : sem2 G .eq (.str i) (.str j) M Q = Q (.bool (decide (i = j))) M := by
  have e : PyData.eqv (.str i) (.str j) = decide (i = j) := by
    simp only [PyData.eqv]
    by_cases h : i = j
    · subst h; simp
    · simp [h]
  have sh : ∀ s : Str, strOk s = true → SeqAt.shaped (.str s) = true := fun s h => (Sm.str (dp := 0) h (Nat.le_refl _)).shaped (Nat.zero_le _)
  refine propext ⟨fun ⟨d, d', h1, h2, _, _, q⟩ => ?_, fun q => s_eq (.str i) (.str j) (sh _ hi) (sh _ hj) (by rw [e]; exact q)⟩
  rw [dm_str] at h1 h2
  subst h1 h2
  rw [e] at q
  exact q
mutual
theorem eqv_refl : ∀ {d : PyData}, d.canLay0 = true → PyData.eqv d d = true
  | .none, _ => rfl
  | .bool b, _ => by simp [PyData.eqv]
  | .int i, _ => by simp [PyData.eqv]
  | .str s, _ => by simp [PyData.eqv]
  | .list ds, h => by simp only [PyData.eqv]; exact eqvAll_refl (by simpa only [PyData.canLay0] using h)
  | .tuple ds, h => by simp only [PyData.eqv]; exact eqvAll_refl (by simpa only [PyData.canLay0] using h)
  | .dict _, h => by simp [PyData.canLay0] at h
theorem eqvAll_refl : ∀ {ds : List PyData}, PyData.canLayAll0 ds = true → PyData.eqvAll ds ds = true
  | [], _ => rfl
  | d :: r, h => by
    simp only [PyData.canLayAll0, Bool.and_eq_true] at h
    simp only [PyData.eqvAll, eqv_refl h.1, eqvAll_refl h.2, Bool.and_self]
end
theorem eqv_str {s t : Str} : PyData.eqv (.str s) (.str t) = decide (s = t) := by
  simp only [PyData.eqv]
  by_cases h : s = t
  · subst h; simp
  · simp [h]
/-- one of these texts is that one -/
theorem any_str {ts : List Str} {s : Str} : ((ts.map PyData.str).any fun z => PyData.eqv z (.str s)) = decide (s ∈ ts) := by
  induction ts with
  | nil => rfl
  | cons t r ih =>
    rw [List.map_cons, List.any_cons, ih, eqv_str]
    by_cases h : t = s
    · subst h; simp
    · have h2 : ¬ s = t := fun e => h e.symm
      simp [h, h2]
/-- text in a list of texts -/
theorem s_inl {G : Glo} {a : Addr} {ts : List Str} {s : Str} {M : Mem} {Q : Bool → Prop} (ha : M a = some (.lst (ts.map Val.str))) (hs : strOk s = true) (hts : SeqAt.shaped (.list (ts.map PyData.str)) = true) (h : Q (decide (s ∈ ts))) : semIn G (.str s) (.ref a) M Q := by
  unfold semIn
  simp only [ha]
  exact ⟨_, _, .str s, .lst ha DmAll.strs, (Sm.str (dp := 0) hs (Nat.le_refl _)).shaped (Nat.zero_le _), hts, by rw [any_str]; exact h⟩
theorem s_str {G : Glo} {x : Val} {d : PyData} {n dp : Nat} {M : Mem} {Q : VK} (h : Dm M x d) (hs : Sm n dp d) (hn : n ≤ 1048576) (hdp : dp ≤ 60) (k : (∃ a, x = .ref a) ∨ ∃ vs, x = .tup vs) (q : Q (.str d.shown) M) : sem1 G .str_ x M Q := by
  show semStr x M Q
  unfold semStr
  rcases k with ⟨a, rfl⟩ | ⟨vs, rfl⟩
  · exact ⟨d, h, hs.sho, hs.dic, Nat.le_trans hs.dep hdp, hs.len (by omega) hn, .inl ⟨a, rfl⟩, q⟩
  · exact ⟨d, h, hs.sho, hs.dic, Nat.le_trans hs.dep hdp, hs.len (by omega) hn, .inr ⟨vs, rfl⟩, q⟩
end MP
/-! What the program says of tags. -/
namespace MP
open PySem L2 PySem.PyData
abbrev abcS : Str := "abcdefghijklmnopqrstuvwxyz"
def okCh (c : Nat) : Bool := !(Builtin.Str.occurrences abcS ⟨#[c]⟩ 0 abcS.length 1).isEmpty
def nameS (s : Str) : Bool := decide (1 ≤ s.length) && (decide (s.length ≤ 8) && s.cps.toList.all okCh)
def nameD : PyData → Bool
  | .str s => nameS s
  | _ => false
theorem okCh_low {c : Nat} (h : 97 ≤ c) (h2 : c ≤ 122) : okCh c = true := by
  have : ∀ i : Fin 26, okCh (97 + i.val) = true := by decide +kernel
  have := this ⟨c - 97, by omega⟩
  rw [show 97 + (c - 97) = c by omega] at this
  exact this
theorem nameS_low {s : Str} (h1 : 1 ≤ s.length) (h2 : s.length ≤ 8) (h : lowS s = true) : nameS s = true := by
  unfold nameS
  rw [decide_eq_true h1, decide_eq_true h2, Bool.true_and, Bool.true_and]
  refine List.all_eq_true.mpr fun c hc => ?_
  have := List.all_eq_true.mp h c hc
  simp only [Bool.and_eq_true, decide_eq_true_eq] at this
  exact okCh_low this.1 this.2
/-- the first place that is no tag or a tag met before -/
def badD (ss : List Str) : List PyData → Nat → Option Nat
  | [], _ => none
  | .str s :: r, i => if nameS s = true ∧ s ∉ ss then badD (ss ++ [s]) r (i + 1) else some i
  | _ :: _, i => some i
/-- what is told of wrong tags -/
def tagsErr : PyData → Option Val
  | .list ds => if 1 ≤ ds.length ∧ ds.length ≤ 6 then (badD [] ds 0).map (fun (i : Nat) => Val.int (i : Int)) else some .none
  | _ => some .none
def strsD : List PyData → List Str
  | [] => []
  | .str s :: r => s :: strsD r
  | _ :: r => strsD r
def dOf : Nat → List Str → List (Val × Val)
  | _, [] => []
  | i, t :: r => (.str t, .int i) :: dOf (i + 1) r
theorem lookK_dOf {s : Str} : ∀ {ts : List Str} {i : Nat}, (lookK (.str s) (dOf i ts)).isSome = decide (s ∈ ts)
  | [], i => rfl
  | t :: r, i => by
    simp only [dOf, lookK, List.mem_cons]
    by_cases h : t = s
    · subst h; simp
    · have h2 : ¬ s = t := fun e => h e.symm
      simp only [h, if_false, lookK_dOf (ts := r), h2, false_or]
theorem dOf_snoc {s : Str} : ∀ {ts : List Str} {i : Nat}, dOf i (ts ++ [s]) = dOf i ts ++ [(.str s, .int ((i + ts.length : Nat) : Int))]
  | [], i => rfl
  | t :: r, i => by
    simp only [List.cons_append, dOf, dOf_snoc (ts := r), List.length_cons]
    rw [show i + 1 + r.length = i + (r.length + 1) by omega]
theorem dOf_len : ∀ {ts : List Str} {i : Nat}, (dOf i ts).length = ts.length
  | [], i => rfl
  | t :: r, i => by simp only [dOf, List.length_cons, dOf_len (ts := r)]
/-- the first place that is no tag of these -/
def firstBad (ts : List Str) : List PyData → Nat → Option Nat
  | [], _ => none
  | .str s :: r, i => if s ∈ ts then firstBad ts r (i + 1) else some i
  | _ :: _, i => some i
def wtext (ws : List Str) : Str := if ws = [] then "-" else Txt.join " " ws
theorem dmAll_get {M : Mem} : ∀ {xs : List Val} {ds : List PyData} {i : Nat} {x : Val}, DmAll M xs ds → xs[i]? = some x → ∃ d, ds[i]? = some d ∧ Dm M x d
  | _, _, _, _, .nil, e => by simp at e
  | _, _, 0, _, .cons r _, e => by simp at e; subst e; exact ⟨_, rfl, r⟩
  | _, _, i + 1, x, .cons _ t, e => by
    obtain ⟨u, h1, h2⟩ := dmAll_get (i := i) (x := x) t (by simpa using e)
    exact ⟨u, by simpa using h1, h2⟩
theorem dmAll_len {M : Mem} : ∀ {xs : List Val} {ds : List PyData}, DmAll M xs ds → xs.length = ds.length
  | _, _, .nil => rfl
  | _, _, .cons _ t => congrArg (· + 1) (dmAll_len t)
theorem enum_get {xs : List Val} {i : Nat} {x : Val} (h : (enumI 0 xs)[i]? = some x) : ∃ y, xs[i]? = some y ∧ x = .tup [.int (i : Nat), y] := by
  rw [enumI_get] at h
  cases e : xs[i]? with
  | none => rw [e] at h; cases h
  | some y =>
    rw [e] at h
    simp only [Option.map_some, Option.some.injEq, Nat.zero_add] at h
    exact ⟨y, rfl, h.symm⟩
theorem setK_new {kvs : List (Val × Val)} {k v : Val} (h : (lookK k kvs).isSome = false) : setK k v kvs = kvs ++ [(k, v)] := by
  unfold setK
  rw [if_neg (by rw [h]; decide)]
/-- of tags as drawn nothing is told -/
theorem badD_good : ∀ {ts ss : List Str} {i : Nat}, (ss ++ ts).Nodup → (∀ t ∈ ts, nameS t = true) → badD ss (ts.map PyData.str) i = Option.none
  | [], ss, i, _, _ => rfl
  | t :: r, ss, i, h, hn => by
    have hn1 := hn t List.mem_cons_self
    have hd : t ∉ ss := fun z => by
      rw [List.nodup_append] at h
      exact h.2.2 t z t List.mem_cons_self rfl
    simp only [List.map_cons, badD, hn1, hd, not_false_eq_true, and_self, if_true]
    exact badD_good (by rw [List.append_assoc]; exact h) fun t ht => hn t (List.mem_cons_of_mem _ ht)
theorem GoodTags.name {ts : List Str} (h : GoodTags ts) {t : Str} (ht : t ∈ ts) : nameS t = true := by
  obtain ⟨a, b, c⟩ := h.nm t ht
  exact nameS_low a b c
theorem GoodTags.err {ts : List Str} (h : GoodTags ts) : tagsErr (.list (ts.map PyData.str)) = Option.none := by
  unfold tagsErr
  simp only [List.length_map]
  rw [if_pos ⟨h.ne, h.le⟩, badD_good (ss := []) (by simpa using h.nd) fun t ht => h.name ht]
  rfl
theorem strsD_map : ∀ {ts : List Str}, strsD (ts.map PyData.str) = ts
  | [] => rfl
  | t :: r => by simp only [List.map_cons, strsD, strsD_map]
theorem s_ind {G : Glo} {q : Addr} {s : Str} {kvs : List (Val × Val)} {M : Mem} {Q : VK} (hm : M q = some (.dct kvs)) (h : Q (.bool (lookK (.str s) kvs).isSome) M) : sem2 G .in_ (.str s) (.ref q) M Q := by
  unfold sem2 semIn
  simp only [hm]
  exact ⟨rfl, h⟩
theorem tagsErr_in {ds : List PyData} (h1 : 1 ≤ ds.length) (h2 : ds.length ≤ 6) : tagsErr (.list ds) = (badD [] ds 0).map (fun (i : Nat) => Val.int (i : Int)) := if_pos ⟨h1, h2⟩
theorem tagsErr_out {ds : List PyData} (h : ¬(1 ≤ ds.length ∧ ds.length ≤ 6)) : tagsErr (.list ds) = some .none := if_neg h
/-- what is told of a wrong subject -/
def subjErr (ts : List Str) : PyData → Option Val
  | .list ds => if 200 < ds.length then some .none else (firstBad ts ds 0).map (fun (i : Nat) => Val.int (i : Int))
  | _ => some .none
theorem subjErr_long {ts : List Str} {ds : List PyData} (h : 200 < ds.length) : subjErr ts (.list ds) = some .none := if_pos h
theorem subjErr_in {ts : List Str} {ds : List PyData} (h : ¬ 200 < ds.length) : subjErr ts (.list ds) = (firstBad ts ds 0).map (fun (i : Nat) => Val.int (i : Int)) := if_neg h
theorem firstBad_strs {ts : List Str} : ∀ {ds : List PyData} {i : Nat}, firstBad ts ds i = Option.none → ds = (strsD ds).map PyData.str ∧ (∀ s ∈ strsD ds, s ∈ ts)
  | [], i, _ => ⟨rfl, fun s h => by cases h⟩
  | d :: r, i, h => by
    cases d with
    | str s =>
      simp only [firstBad] at h
      split at h
      · rename_i hs
        obtain ⟨h1, h2⟩ := firstBad_strs h
        refine ⟨by simp only [strsD, List.map_cons]; rw [← h1], fun z hz => ?_⟩
        rcases List.mem_cons.mp hz with e | e
        · rw [e]; exact hs
        · exact h2 z e
      · cases h
    | _ => simp [firstBad] at h
/-- a text as a subject's -/
def textD (ts : List Str) (x : Str) : Option (List Str) := if x = "-" then some [] else if 200 < (Txt.split x " ").length then Option.none else if (Txt.split x " ").all (fun w => decide (w ∈ ts)) = true then some (Txt.split x " ") else Option.none
theorem s_split {x : Str} {M : Mem} {Q : VK} (h : x.length ≤ 16777000) : semM .split (.str x) [.str " "] M Q = newL ((Txt.split x " ").map Val.str) M Q :=
  propext ⟨fun q => q.2.2, fun q => ⟨rfl, by show _ ≤ 2 ^ 24; omega, q⟩⟩
theorem s_app {a : Addr} {y : Val} {M : Mem} {Q : VK} : semM .append (.ref a) [y] M Q = (match M a with | some (.lst xs) => xs.length < sizeLine ∧ Q .none (mup M a (.lst (xs ++ [y]))) | _ => False) := rfl
theorem sum_le {b : Nat} : ∀ {l : List Nat}, (∀ x ∈ l, x ≤ b) → l.sum ≤ l.length * b
  | [], _ => Nat.zero_le _
  | x :: r, h => by
    have := sum_le (l := r) fun y hy => h y (List.mem_cons_of_mem _ hy)
    have := h x List.mem_cons_self
    simp only [List.sum_cons, List.length_cons, Nat.succ_mul]
    omega
theorem s_join {p : Addr} {ws : List Str} {sep : Str} {M : Mem} {Q : VK} (hp : M p = some (.lst (ws.map Val.str))) (h1 : ws.length ≤ 1000) (h2 : ∀ w ∈ ws, w.length ≤ 1000) (h3 : sep.length ≤ 10) (q : Q (.str (Txt.join sep ws)) M) : semM .join (.str sep) [.ref p] M Q := by
  simp only [semM, hp, textsOf_map]
  refine ⟨?_, q⟩
  have a : (ws.map (·.length)).sum ≤ ws.length * 1000 := by
    have := sum_le (b := 1000) (l := ws.map (·.length)) fun x hx => by
      obtain ⟨w, hw, rfl⟩ := List.mem_map.mp hx
      exact h2 w hw
    rwa [List.length_map] at this
  have b : ws.length * sep.length ≤ 1000 * 10 := Nat.mul_le_mul h1 h3
  omega
theorem dmAll_strs {M : Mem} : ∀ {zs : List Str} {xs : List Val}, DmAll M xs (zs.map PyData.str) → xs = zs.map Val.str
  | [], _, h => by cases h; rfl
  | z :: r, _, h => by
    cases h with
    | cons p q =>
      cases p
      rw [dmAll_strs q]
      rfl
def valD : Val → PyData
  | .int i => .int i
  | _ => .none
theorem tagsErr_dm {M : Mem} {td : PyData} {e : Val} (h : tagsErr td = some e) : Dm M e (valD e) := by
  cases td with
  | list ds =>
    by_cases h1 : 1 ≤ ds.length ∧ ds.length ≤ 6
    · rw [tagsErr_in h1.1 h1.2] at h
      cases hb : badD [] ds 0 with
      | none => rw [hb] at h; cases h
      | some i => rw [hb] at h; cases h; exact .int _
    · rw [tagsErr_out h1] at h; cases h; exact .non
  | _ => cases h; exact .non
theorem subjErr_dm {M : Mem} {ts : List Str} {td : PyData} {e : Val} (h : subjErr ts td = some e) : Dm M e (valD e) := by
  cases td with
  | list ds =>
    by_cases h1 : 200 < ds.length
    · rw [subjErr_long h1] at h; cases h; exact .non
    · rw [subjErr_in h1] at h
      cases hb : firstBad ts ds 0 with
      | none => rw [hb] at h; cases h
      | some i => rw [hb] at h; cases h; exact .int _
  | _ => cases h; exact .non
def tdL : PyData → List Str
  | .list ds => strsD ds
  | _ => []
/-- what the tests are told of a subject, of a text -/
def subjD (ts : List Str) (dd : PyData) : PyData := match subjErr ts dd with
  | some e => .list [.str "subject", valD e]
  | Option.none => .list [.str "text of", .str (wtext (tdL dd))]
def textDD (ts : List Str) : PyData → PyData
  | .str x => (match textD ts x with | some ws => .list [.str "subject of", .list (ws.map PyData.str)] | Option.none => .list [.str "line", .int 0])
  | _ => .list [.str "line", .none]
def told0 (td dd : PyData) : PyData := match tagsErr td with
  | some e => .list [.str "tags", valD e]
  | Option.none => subjD (tdL td) dd
def told1 (td dd : PyData) : PyData := match tagsErr td with
  | some e => .list [.str "tags", valD e]
  | Option.none => textDD (tdL td) dd
theorem dm2 {M : Mem} {r : Addr} {x y : Val} {dx dy : PyData} (h : Dm M x dx) (k : Dm M y dy) (hr : M r = some (.lst [x, y])) : Dm M (.ref r) (.list [dx, dy]) := .lst hr (.cons h (.cons k .nil))
theorem if_own {b : Bool} {A B : Prop} (h : b = true) (a : A) : if b = true then A else B := by rw [if_pos h]; exact a
/-! ### texts of words -/
def catT (ws : List Str) : Str := ws.foldl (fun (t w : Str) => t ++ " " ++ w) ""
theorem catT_snoc {ws : List Str} {w : Str} : catT (ws ++ [w]) = catT ws ++ " " ++ w := by unfold catT; rw [List.foldl_append]; rfl
theorem catT_cps {ws : List Str} : (catT ws).cps.toList = ws.flatMap fun w => 32 :: w.cps.toList := by
  have : ∀ (ws : List Str) (t : Str), (ws.foldl (fun (t w : Str) => t ++ " " ++ w) t).cps.toList = t.cps.toList ++ ws.flatMap fun w => 32 :: w.cps.toList := by
    intro ws
    induction ws with
    | nil => intro t; simp
    | cons w r ih =>
      intro t
      rw [List.foldl_cons, ih]
      simp only [str_app, Array.toList_append, List.flatMap_cons, List.append_assoc]
      rfl
  have := this ws ""
  unfold catT
  rw [this]
  rfl
theorem join_cps : ∀ {ws : List Str}, ws ≠ [] → 32 :: (Txt.join " " ws).cps.toList = ws.flatMap fun w => 32 :: w.cps.toList
  | [], h => absurd rfl h
  | [w], _ => by
    rw [TL.join_eq]
    show 32 :: w.cps.toList = _
    simp
  | w :: z :: r, _ => by
    have ih := join_cps (ws := z :: r) (by simp)
    rw [TL.join_eq] at ih ⊢
    rw [List.flatMap_cons, ← ih]
    show 32 :: (w ++ " " ++ Str.join " " (z :: r)).cps.toList = _
    rw [str_app, str_app, Array.toList_append, Array.toList_append, List.append_assoc]
    rfl
theorem cut1 {s : Str} {l : List Nat} {c : Nat} (h : s.cps.toList = c :: l) : (L2.cutS s (some 1) none).cps.toList = l := by
  have hl : s.length = l.length + 1 := by rw [str_len, h]; rfl
  have e1 : HT.sIx s.length 0 (some ((1 : Nat) : Int)) = 1 := by rw [HT.sIx_nat]; omega
  unfold L2.cutS
  rw [show (1 : Int) = ((1 : Nat) : Int) from rfl, e1, HT.sIx_none, h]
  simp [hl]
theorem cut_cat {ws : List Str} (h : ws ≠ []) : L2.cutS (catT ws) (some 1) none = Txt.join " " ws := str_ext (by
  rw [cut1 (s := catT ws) (c := 32) (l := (Txt.join " " ws).cps.toList)]
  rw [catT_cps, join_cps h])
theorem flat_le {b : Nat} : ∀ {ws : List Str}, (∀ w ∈ ws, w.length ≤ b) → (ws.flatMap fun w => 32 :: w.cps.toList).length ≤ ws.length * (b + 1)
  | [], _ => Nat.zero_le _
  | w :: r, h => by
    have h1 := h w List.mem_cons_self
    have ih := flat_le (ws := r) fun w hw => h w (List.mem_cons_of_mem _ hw)
    rw [str_len] at h1
    rw [List.flatMap_cons, List.length_append, List.length_cons, List.length_cons, Nat.succ_mul]
    omega
theorem catT_le {b : Nat} {ws : List Str} (h : ∀ w ∈ ws, w.length ≤ b) : (catT ws).length ≤ ws.length * (b + 1) := by
  rw [str_len, catT_cps]
  exact flat_le h
theorem wtext_le {b : Nat} {ws : List Str} (h : ∀ w ∈ ws, w.length ≤ b) : (wtext ws).length ≤ ws.length * (b + 1) + 1 := by
  unfold wtext
  split
  · show 1 ≤ _; omega
  · rename_i hn
    have := flat_le h
    rw [← join_cps hn] at this
    rw [str_len]
    simp only [List.length_cons] at this
    omega
theorem ok_iff {s : Str} : strOk s = true ↔ ∀ c ∈ s.cps.toList, c < 0x110000 := by
  unfold strOk
  rw [← Array.all_toList, List.all_eq_true]
  exact ⟨fun h c hc => of_decide_eq_true (h c hc), fun h c hc => decide_eq_true (h c hc)⟩
theorem wtext_ok {ws : List Str} (h : ∀ w ∈ ws, strOk w = true) : strOk (wtext ws) = true := by
  unfold wtext
  split
  · decide +kernel
  · rename_i hn
    rw [ok_iff]
    intro c hc
    have : c ∈ ws.flatMap fun w => 32 :: w.cps.toList := by rw [← join_cps hn]; exact List.mem_cons_of_mem _ hc
    obtain ⟨w, hw, hcw⟩ := List.mem_flatMap.mp this
    rcases List.mem_cons.mp hcw with e | e
    · rw [e]; decide
    · exact ok_iff.mp (h w hw) c e
theorem cut_ok {s : Str} {l h : Option Int} (hs : strOk s = true) : strOk (L2.cutS s l h) = true := by
  rw [ok_iff] at hs ⊢
  intro c hc
  unfold L2.cutS at hc
  exact hs c (List.mem_of_mem_drop (List.mem_of_mem_take (by simpa using hc)))
theorem spl_mem {S : List Nat} : ∀ {l acc : List Nat} {k : Nat} {p : List Nat}, p ∈ TL.spl S k acc l → ∀ c ∈ p, c ∈ acc ∨ c ∈ l
  | [], acc, k, p, h, c, hc => by
    simp only [TL.spl, List.mem_singleton] at h
    rw [h] at hc
    exact .inl hc
  | x :: r, acc, 0, p, h, c, hc => by
    simp only [TL.spl] at h
    split at h
    · rcases List.mem_cons.mp h with e | e
      · rw [e] at hc; exact .inl hc
      · rcases spl_mem e c hc with z | z
        · cases z
        · exact .inr (List.mem_cons_of_mem _ z)
    · rcases spl_mem h c hc with z | z
      · rcases List.mem_append.mp z with y | y
        · exact .inl y
        · rw [List.mem_singleton.mp y]; exact .inr List.mem_cons_self
      · exact .inr (List.mem_cons_of_mem _ z)
  | x :: r, acc, k + 1, p, h, c, hc => by
    simp only [TL.spl] at h
    rcases spl_mem h c hc with z | z
    · exact .inl z
    · exact .inr (List.mem_cons_of_mem _ z)
theorem split_ok {x w : Str} (hx : strOk x = true) (hw : w ∈ Txt.split x " ") : strOk w = true := by
  rw [ok_iff] at hx ⊢
  intro c hc
  have h := TL.split_spl x " " (by decide) (TL.kind_ok (by decide +kernel))
  have h2 : TL.tl w ∈ (Txt.split x " ").map TL.tl := List.mem_map.mpr ⟨w, hw, rfl⟩
  rw [h] at h2
  rcases spl_mem h2 c hc with z | z
  · cases z
  · exact hx c z
theorem shaped_strs {ws : List Str} (h : ∀ w ∈ ws, strOk w = true) : SeqAt.shaped (.list (ws.map PyData.str)) = true := by
  have h1 : PyData.canLayAll0 (ws.map PyData.str) = true ∧ PyData.depthAll (ws.map PyData.str) = 0 := by
    induction ws with
    | nil => exact ⟨rfl, rfl⟩
    | cons w r ih =>
      obtain ⟨a, b⟩ := ih fun z hz => h z (List.mem_cons_of_mem _ hz)
      have hw := h w List.mem_cons_self
      exact ⟨by simp only [List.map_cons, PyData.canLayAll0, PyData.canLay0, hw, a, Bool.and_self], by simp only [List.map_cons, PyData.depthAll, PyData.depth, b, Nat.max_self]⟩
  unfold SeqAt.shaped
  simp only [PyData.canLay0, h1.1, PyData.depth, h1.2, Bool.true_and]
  decide
theorem eqv_nil {ds : List PyData} : PyData.eqv (.list ds) (.list []) = ds.isEmpty := by cases ds <;> rfl
theorem s_notin {G : Glo} {x y : Val} {M : Mem} {Q : VK} : sem2 G .notin x y M Q = semIn G x y M fun b => Q (.bool (!b)) M := rfl
theorem shaped_nil : SeqAt.shaped (.list []) = true := by decide +kernel
theorem GoodTags.ok {ts : List Str} (h : GoodTags ts) {t : Str} (ht : t ∈ ts) : strOk t = true := low_ok (h.nm t ht).2.2
theorem GoodTags.shaped {ts : List Str} (h : GoodTags ts) : SeqAt.shaped (.list (ts.map PyData.str)) = true := shaped_strs fun _ hw => h.ok hw
theorem addl_in {a b : Addr} {xs ys : List Val} {M : Mem} {Q : VK} (ha : M a = some (.lst xs)) (hb : M b = some (.lst ys)) (h : xs.length + ys.length ≤ sizeLine ∧ newL (xs ++ ys) M Q) :
    (match M a, M b with | some (.lst xs), some (.lst ys) => xs.length + ys.length ≤ sizeLine ∧ newL (xs ++ ys) M Q | _, _ => False) := by
  rw [ha, hb]
  exact h
end MP
/-! The text of data is a text of signs. -/
namespace MP
open PySem L2 PySem.PyData
theorem char_lt (c : Char) : c.toNat < 0x110000 := by
  have h : c.val.toNat < 0xd800 ∨ (0xdfff < c.val.toNat ∧ c.val.toNat < 0x110000) := c.valid
  have e : c.toNat = c.val.toNat := rfl
  omega
theorem ofString_ok (s : String) : strOk (Str.ofString s) = true := by
  rw [ok_iff]
  intro c hc
  rw [Str.ofString_eq_toList] at hc
  simp only at hc
  obtain ⟨a, _, rfl⟩ := List.mem_map.mp hc
  exact char_lt a
theorem reprChar_ok {q c x : Nat} (hq : q < 0x110000) (hc : c < 0x110000) (h : x ∈ Builtin.Str.reprChar q c) : x < 0x110000 := by
  have hex : ∀ w, x ∈ (List.replicate (w - ((Nat.toDigits 16 c).map Char.toNat).length) 48 ++ (Nat.toDigits 16 c).map Char.toNat) → x < 0x110000 := fun w hx => by
    rcases List.mem_append.mp hx with z | z
    · rw [(List.mem_replicate.mp z).2]; decide
    · obtain ⟨a, _, rfl⟩ := List.mem_map.mp z
      exact char_lt a
  have pair : ∀ a b : Nat, a < 0x110000 → b < 0x110000 → x ∈ [a, b] → x < 0x110000 := fun a b ha hb hx => by
    simp only [List.mem_cons, List.mem_nil_iff, or_false] at hx
    rcases hx with rfl | rfl <;> assumption
  unfold Builtin.Str.reprChar at h
  dsimp only at h
  repeat' split at h
  all_goals first
    | exact pair _ _ (by decide) hc h
    | exact pair _ _ (by decide) (by decide) h
    | (rw [List.mem_singleton.mp h]; exact hc)
    | (rcases List.mem_append.mp h with z | z
       · exact pair _ _ (by decide) (by decide) z
       · exact hex _ z)
theorem reprText_ok {x : Str} (h : strOk x = true) : strOk (PySem.reprText x) = true := by
  rw [ok_iff] at h ⊢
  have hq : PySem.reprQuote x < 0x110000 := by unfold PySem.reprQuote; split <;> decide
  have key : ∀ (l : List Nat) (acc : Array Nat), (∀ c ∈ l, c < 0x110000) → (∀ c ∈ acc.toList, c < 0x110000) → ∀ c ∈ (l.foldl (fun out c => out ++ (Builtin.Str.reprChar (PySem.reprQuote x) c).toArray) acc).toList, c < 0x110000 := by
    intro l
    induction l with
    | nil => intro acc _ h2; exact h2
    | cons a r ih =>
      intro acc h1 h2
      rw [List.foldl_cons]
      refine ih _ (fun c hc => h1 c (List.mem_cons_of_mem _ hc)) fun c hc => ?_
      rw [Array.toList_append] at hc
      rcases List.mem_append.mp hc with z | z
      · exact h2 c z
      · exact reprChar_ok hq (h1 a List.mem_cons_self) (by simpa using z)
  unfold PySem.reprText
  intro c hc
  rw [Array.toList_push, ← Array.foldl_toList] at hc
  rcases List.mem_append.mp hc with z | z
  · exact key _ _ h (fun c hc => by simp at hc; rw [hc]; exact hq) c z
  · rw [List.mem_singleton.mp z]; exact hq
theorem join_ok {sep : Str} (hs : strOk sep = true) : ∀ {ts : List Str}, (∀ t ∈ ts, strOk t = true) → strOk (Str.join sep ts) = true
  | [], _ => (by decide +kernel : strOk Str.empty = true)
  | [t], h => h t List.mem_cons_self
  | t :: u :: r, h => by
    show strOk (t ++ sep ++ Str.join sep (u :: r)) = true
    exact ok_app (ok_app (h t List.mem_cons_self) hs) (join_ok hs fun z hz => h z (List.mem_cons_of_mem _ hz))
theorem textFrom_ok : ∀ {ts : List Str} {k : Nat} {acc : Str}, strOk acc = true → (∀ t ∈ ts, strOk t = true) → strOk (PySem.textFrom k acc ts) = true
  | [], k, acc, h, _ => h
  | t :: r, k, acc, h, hr => by
    show strOk (PySem.textFrom (k + 1) _ r) = true
    refine textFrom_ok (ok_app (ok_app h ?_) (hr t List.mem_cons_self)) fun z hz => hr z (List.mem_cons_of_mem _ hz)
    split <;> exact ofString_ok _
mutual
theorem shown_ok : ∀ {d : PyData}, d.canLay0 = true → strOk d.shown = true
  | .none, _ => ofString_ok _
  | .bool b, _ => by cases b <;> exact ofString_ok _
  | .int i, _ => ofString_ok _
  | .str s, h => by simp only [PyData.shown]; exact reprText_ok h
  | .list ds, h => by
    simp only [PyData.shown]
    exact ok_app (textFrom_ok (ofString_ok _) (shownAll_ok h)) (ofString_ok _)
  | .tuple ds, h => by
    simp only [PyData.shown]
    refine ok_app (ok_app (ofString_ok _) (join_ok (ofString_ok _) (shownAll_ok h))) ?_
    split <;> exact ofString_ok _
  | .dict _, h => by simp [PyData.canLay0] at h
theorem shownAll_ok : ∀ {ds : List PyData}, PyData.canLayAll0 ds = true → ∀ t ∈ PyData.shownAll ds, strOk t = true
  | [], _, t, ht => by simp [PyData.shownAll] at ht
  | d :: r, h, t, ht => by
    simp only [PyData.canLayAll0, Bool.and_eq_true] at h
    simp only [PyData.shownAll, List.mem_cons] at ht
    rcases ht with e | e
    · rw [e]; exact shown_ok h.1
    · exact shownAll_ok h.2 t e
end
/-- the text of a thing -/
def strD : PyData → Str
  | .str s => s
  | d => d.shown
theorem strD_ok {d : PyData} (h : d.canLay0 = true) : strOk (strD d) = true := by
  cases d <;> first | exact shown_ok h | exact h
def notInt : PyData → Bool
  | .int _ => false
  | .bool _ => false
  | _ => true
theorem s_strD {G : Glo} {x : Val} {d : PyData} {n dp : Nat} {M : Mem} {Q : VK} (h : Dm M x d) (hs : Sm n dp d) (hn : n ≤ 1048576) (hdp : dp ≤ 60) (hi : notInt d = true) (q : Q (.str (strD d)) M) : sem1 G .str_ x M Q := by
  cases h with
  | non => exact q
  | str s => exact q
  | lst e r => exact s_str (.lst e r) hs hn hdp (.inl ⟨_, rfl⟩) q
  | tup r => exact s_str (.tup r) hs hn hdp (.inr ⟨_, rfl⟩) q
  | _ => cases hi
/-! ### what is told, shaped -/
theorem told0_good {ts : List Str} (h : GoodTags ts) {d : PyData} : told0 (.list (ts.map PyData.str)) d = subjD ts d := by
  unfold told0
  rw [h.err]
  dsimp only
  rw [show tdL (.list (ts.map PyData.str)) = ts from strsD_map]
theorem told1_good {ts : List Str} (h : GoodTags ts) {d : PyData} : told1 (.list (ts.map PyData.str)) d = textDD ts d := by
  unfold told1
  rw [h.err]
  dsimp only
  rw [show tdL (.list (ts.map PyData.str)) = ts from strsD_map]
theorem told0_bad {td d : PyData} {e : Val} (h : tagsErr td = some e) : told0 td d = .list [.str "tags", valD e] := by
  unfold told0
  rw [h]
theorem told1_bad {td d : PyData} {e : Val} (h : tagsErr td = some e) : told1 td d = .list [.str "tags", valD e] := by
  unfold told1
  rw [h]
theorem err_lay {x : Str} {e : Val} (hx : strOk x = true) : PyData.canLay0 (.list [.str x, valD e]) = true ∧ PyData.depth (.list [.str x, valD e]) ≤ 2 := by
  have : (valD e).canLay0 = true ∧ (valD e).depth = 0 := by cases e <;> exact ⟨rfl, rfl⟩
  refine ⟨?_, ?_⟩
  · simp only [PyData.canLay0, PyData.canLayAll0, this.1, hx, Bool.and_self]
  · simp only [PyData.depth, PyData.depthAll, this.2]; decide
theorem shaped_of {d : PyData} (h : d.canLay0 = true) (k : d.depth ≤ 2) : SeqAt.shaped d = true := by
  unfold SeqAt.shaped
  rw [h, Bool.true_and]
  exact decide_eq_true (by omega)
theorem subjD_lay {ts : List Str} (h : ∀ t ∈ ts, strOk t = true) {d : PyData} : (subjD ts d).canLay0 = true ∧ (subjD ts d).depth ≤ 2 := by
  unfold subjD
  split
  · exact err_lay (ofString_ok _)
  · rename_i e
    have hw : strOk (wtext (tdL d)) = true := by
      cases d with
      | list ds =>
        by_cases h1 : 200 < ds.length
        · rw [subjErr_long h1] at e; cases e
        · rw [subjErr_in h1] at e
          have e4 : firstBad ts ds 0 = Option.none := by
            cases e5 : firstBad ts ds 0 with
            | none => rfl
            | some i => rw [e5] at e; cases e
          exact wtext_ok fun w hw => h w ((firstBad_strs e4).2 w hw)
      | _ => cases e
    refine ⟨?_, ?_⟩
    · simp only [PyData.canLay0, PyData.canLayAll0, hw, ofString_ok, Bool.and_self]
    · simp only [PyData.depth, PyData.depthAll]; decide
theorem textD_mem {ts ws : List Str} {x : Str} (h : textD ts x = some ws) : ∀ w ∈ ws, w ∈ ts := by
  unfold textD at h
  split at h
  · cases h; intro w hw; cases hw
  · split at h
    · cases h
    · split at h
      · rename_i hall
        cases h
        intro w hw
        simpa using List.all_eq_true.mp hall w hw
      · cases h
theorem lay_strs {ws : List Str} (h : ∀ w ∈ ws, strOk w = true) : PyData.canLayAll0 (ws.map PyData.str) = true ∧ PyData.depthAll (ws.map PyData.str) = 0 := by
  induction ws with
  | nil => exact ⟨rfl, rfl⟩
  | cons w r ih =>
    obtain ⟨a, b⟩ := ih fun z hz => h z (List.mem_cons_of_mem _ hz)
    have hw := h w List.mem_cons_self
    exact ⟨by simp only [List.map_cons, PyData.canLayAll0, PyData.canLay0, hw, a, Bool.and_self], by simp only [List.map_cons, PyData.depthAll, PyData.depth, b, Nat.max_self]⟩
theorem textDD_lay {ts : List Str} (h : ∀ t ∈ ts, strOk t = true) {d : PyData} : (textDD ts d).canLay0 = true ∧ (textDD ts d).depth ≤ 2 := by
  cases d with
  | str x =>
    show ((match textD ts x with | some ws => PyData.list [.str "subject of", .list (ws.map PyData.str)] | Option.none => .list [.str "line", .int 0]) : PyData).canLay0 = true ∧ ((match textD ts x with | some ws => PyData.list [.str "subject of", .list (ws.map PyData.str)] | Option.none => .list [.str "line", .int 0]) : PyData).depth ≤ 2
    cases e : textD ts x with
    | none => exact err_lay (e := .int 0) (ofString_ok _)
    | some ws =>
      obtain ⟨l1, l2⟩ := lay_strs fun w hw => h w (textD_mem e w hw)
      dsimp only
      refine ⟨?_, ?_⟩
      · simp only [PyData.canLay0, PyData.canLayAll0, l1, ofString_ok, Bool.and_self]
      · simp only [PyData.depth, PyData.depthAll, l2]; decide
  | _ => exact err_lay (e := .none) (ofString_ok _)
/-- two equal tellings -/
theorem s_same {G : Glo} {x y : Val} {d : PyData} {M : Mem} {Q : VK} (hx : Dm M x d) (hy : Dm M y d) (h1 : d.canLay0 = true) (h2 : d.depth ≤ 2) (h : Q (.bool false) M) : sem2 G .ne x y M Q := by
  refine s_ne hx hy (shaped_of h1 h2) (shaped_of h1 h2) ?_
  rw [eqv_refl h1]
  exact h
theorem cut_first {α : Type} {x : α} {r : List α} : cutL (x :: r) none (some 1) = [x] := by
  have e1 : HT.sIx (x :: r).length (x :: r).length (some ((1 : Nat) : Int)) = 1 := by rw [HT.sIx_nat, List.length_cons]; omega
  unfold cutL
  rw [show (1 : Int) = ((1 : Nat) : Int) from rfl, e1, HT.sIx_none]
  rfl
theorem flat1 {α : Type} {x : α} : ∀ n : Nat, (List.replicate n [x]).flatten = List.replicate n x
  | 0 => rfl
  | n + 1 => by rw [List.replicate_succ, List.flatten_cons, flat1 n]; rfl
theorem s_mulr {G : Glo} {a : Addr} {k : Int} {M : Mem} {Q : VK} : sem2 G .mul (.ref a) (.int k) M Q = (match M a with | some (.lst xs) => -(2 ^ 63) ≤ k ∧ k < 2 ^ 63 ∧ xs.length * k.toNat ≤ sizeLine ∧ newL (List.replicate k.toNat xs).flatten M Q | _ => False) := rfl
theorem badD_again {s : Str} : ∀ {ts ss : List Str} {i : Nat}, (ss ++ ts).Nodup → (∀ t ∈ ts, nameS t = true) → s ∈ ss ++ ts → badD ss ((ts ++ [s]).map PyData.str) i = some (i + ts.length)
  | [], ss, i, _, _, hs => by
    have : s ∈ ss := by simpa using hs
    simp only [List.nil_append, List.map_cons, List.map_nil, badD, this, not_true_eq_false, and_false, if_false, List.length_nil, Nat.add_zero]
  | t :: r, ss, i, h, hn, hs => by
    have hn1 := hn t List.mem_cons_self
    have hd : t ∉ ss := fun z => by
      rw [List.nodup_append] at h
      exact h.2.2 t z t List.mem_cons_self rfl
    simp only [List.cons_append, List.map_cons, badD, hn1, hd, not_false_eq_true, and_self, if_true]
    rw [badD_again (by rw [List.append_assoc]; exact h) (fun t ht => hn t (List.mem_cons_of_mem _ ht)) (by rw [List.append_assoc]; exact hs), List.length_cons]
    congr 1
    omega
theorem err_again {t0 : Str} {tr : List Str} (h : GoodTags (t0 :: tr)) (hl : (t0 :: tr).length < 6) : tagsErr (.list (((t0 :: tr) ++ [t0]).map PyData.str)) = some (.int ((t0 :: tr).length : Nat)) := by
  rw [tagsErr_in (by simp) (by simp only [List.length_map, List.length_append, List.length_cons, List.length_nil] at *; omega), badD_again (ss := []) (by simpa using h.nd) (fun t ht => h.name ht) (by simp), Nat.zero_add]
  rfl
theorem err_ab {t0 : Str} {tr : List Str} (h : GoodTags (t0 :: tr)) : tagsErr (.list [.str t0, .str "a b"]) = some (.int 1) := by
  have h1 := h.name (t := t0) List.mem_cons_self
  have h2 : nameS "a b" = false := by decide +kernel
  rw [tagsErr_in (by simp) (by simp)]
  simp only [badD, h1, h2, List.not_mem_nil, not_false_eq_true, and_self, if_true, Bool.false_eq_true, false_and, if_false]
  rfl
theorem addl_mk {G : Glo} {a b : Addr} {xs ys : List Val} {M : Mem} {Q : VK} (ha : M a = some (.lst xs)) (hb : M b = some (.lst ys)) (hl : xs.length + ys.length ≤ 16777216) (h : newL (xs ++ ys) M Q) : sem2 G .add (.ref a) (.ref b) M Q := by rw [s_addl ha hb hl]; exact h
theorem cutL_le {α : Type} {xs : List α} {l h : Option Int} : (cutL xs l h).length ≤ xs.length := by
  unfold cutL
  simp only [List.length_take, List.length_drop]
  omega
theorem cutL_mem {α : Type} {xs : List α} {l h : Option Int} {x : α} (hx : x ∈ cutL xs l h) : x ∈ xs := List.mem_of_mem_drop (List.mem_of_mem_take hx)
end MP
namespace K60
open PySem L2 MP
/-- _law_pile: 0 script, 1 k, 2 cell, 3 great -/
def b_law_pile_2 : Ss := .cons (.asg (.name 2) (.op2 .at_ (.var 0) (.var 1))) .nil
def b_law_pile_4 : Ss := .cons (.ret (.lst (.cons (.op2 .mul (.var 3) (.op1 .int_ (.op2 .ge (.op1 .abs (.var 2)) (.op2 .pow (.con (.int 10)) (.con (.int 18)))))) (.cons (.op2 .mod (.op1 .int_ (.var 2)) (.con (.int 2147483647))) (.cons (.op2 .mul (.con (.int 97)) (.var 1)) .nil))))) .nil
def b_law_pile_3 : Ss := .cons (.asg (.name 3) (.op2 .mod (.op1 .int_ (.var 2)) (.op2 .mul (.op2 .mul (.op2 .pow (.con (.int 10)) (.con (.int 50))) (.op2 .pow (.con (.int 10)) (.con (.int 50)))) (.op2 .pow (.con (.int 10)) (.con (.int 50)))))) b_law_pile_4
def b_law_pile_1 : Ss := .cons (.ite (.op2 .lt (.var 1) (.op1 .len (.var 0))) b_law_pile_2 .nil) b_law_pile_3
def b_law_pile_0 : Ss := .cons (.asg (.name 2) (.con (.int 0))) b_law_pile_1
def f_law_pile : Fn := ⟨2, 4, b_law_pile_0⟩
/-- _law_mixed: 0 cell, 1 k, 2 number -/
def b_law_mixed_2 : Ss := .cons (.ret (.op2 .fdiv (.op2 .mod (.op2 .mul (.var 2) (.var 2)) (.con (.int 2147483587))) (.con (.int 64)))) .nil
def b_law_mixed_1 : Ss := .cons (.asg (.name 2) (.op2 .mod (.op2 .mul (.var 2) (.var 2)) (.con (.int 2147483629)))) b_law_mixed_2
def b_law_mixed_0 : Ss := .cons (.asg (.name 2) (.op2 .mod (.op2 .add (.op2 .add (.op2 .mul (.op2 .mod (.op1 .int_ (.var 0)) (.con (.int 2147483647))) (.con (.int 48271))) (.op2 .mul (.var 1) (.con (.int 69621)))) (.con (.int 11))) (.con (.int 2147483647)))) b_law_mixed_1
def f_law_mixed : Fn := ⟨2, 3, b_law_mixed_0⟩
/-- _law_take: 0 pile, 1 many, 2 digit -/
def b_law_take_2 : Ss := .cons (.ret (.op2 .mod (.call 1 (.cons (.op2 .at_ (.var 0) (.con (.int 1))) (.cons (.op2 .at_ (.var 0) (.con (.int 2))) .nil))) (.var 1))) .nil
def b_law_take_1 : Ss := .cons (.asg (.sub (.var 0) (.con (.int 2))) (.op2 .add (.op2 .at_ (.var 0) (.con (.int 2))) (.con (.int 1)))) b_law_take_2
def b_law_take_5 : Ss := .cons (.ret (.var 2)) .nil
def b_law_take_4 : Ss := .cons (.asg (.sub (.var 0) (.con (.int 0))) (.op2 .fdiv (.op2 .at_ (.var 0) (.con (.int 0))) (.var 1))) b_law_take_5
def b_law_take_3 : Ss := .cons (.asg (.name 2) (.op2 .mod (.op1 .int_ (.op2 .at_ (.var 0) (.con (.int 0)))) (.var 1))) b_law_take_4
def b_law_take_0 : Ss := .cons (.ite (.op2 .eq (.op2 .at_ (.var 0) (.con (.int 0))) (.con (.int 0))) b_law_take_1 .nil) b_law_take_3
def f_law_take : Fn := ⟨2, 3, b_law_take_0⟩
/-- _law_tags: 0 pile, 1 many, 2 letters, 3 stem, 4 at, 5 shift, 6 pace, 7 plain, 8 k -/
def b_law_tags_4 : Ss := .cons (.ret (.slice (.var 7) (.var 4) (.op2 .add (.var 4) (.var 1)))) .nil
def b_law_tags_3 : Ss := .cons (.asg (.name 4) (.call 2 (.cons (.var 0) (.cons (.con (.int 6)) .nil)))) b_law_tags_4
def b_law_tags_2 : Ss := .cons (.asg (.name 7) (.lst (.cons (.con (.str "re")) (.cons (.con (.str "fwd")) (.cons (.con (.str "list")) (.cons (.con (.str "aw")) (.cons (.con (.str "r")) (.cons (.con (.str "ext")) (.cons (.con (.str "re")) (.cons (.con (.str "fwd")) (.cons (.con (.str "list")) (.cons (.con (.str "aw")) (.cons (.con (.str "r")) .nil))))))))))))) b_law_tags_3
def b_law_tags_9 : Ss := .cons (.ret (.comp (.op2 .add (.op2 .add (.slice (.var 3) (.con .none) (.var 4)) (.op2 .at_ (.var 2) (.op2 .mod (.op2 .add (.var 5) (.op2 .mul (.var 6) (.var 8))) (.con (.int 26))))) (.slice (.var 3) (.var 4) (.con .none))) [8] (.name 8) (.rng1 (.var 1)) .nil)) .nil
def b_law_tags_8 : Ss := .cons (.asg (.name 6) (.op2 .at_ (.lst (.cons (.con (.int 1)) (.cons (.con (.int 3)) (.cons (.con (.int 5)) (.cons (.con (.int 7)) (.cons (.con (.int 9)) (.cons (.con (.int 11)) (.cons (.con (.int 15)) (.cons (.con (.int 17)) (.cons (.con (.int 19)) (.cons (.con (.int 21)) (.cons (.con (.int 23)) (.cons (.con (.int 25)) .nil))))))))))))) (.call 2 (.cons (.var 0) (.cons (.con (.int 12)) .nil))))) b_law_tags_9
def b_law_tags_7 : Ss := .cons (.asg (.name 5) (.call 2 (.cons (.var 0) (.cons (.con (.int 26)) .nil)))) b_law_tags_8
def b_law_tags_6 : Ss := .cons (.asg (.name 4) (.call 2 (.cons (.var 0) (.cons (.op2 .add (.op1 .len (.var 3)) (.con (.int 1))) .nil)))) b_law_tags_7
def b_law_tags_5 : Ss := .cons (.asg (.name 3) (.meth .join (.con (.str "")) (.cons (.comp (.op2 .at_ (.var 2) (.call 2 (.cons (.var 0) (.cons (.con (.int 26)) .nil)))) [8] (.name 8) (.rng1 (.call 2 (.cons (.var 0) (.cons (.con (.int 8)) .nil)))) .nil) .nil))) b_law_tags_6
def b_law_tags_1 : Ss := .cons (.ite (.op2 .eq (.call 2 (.cons (.var 0) (.cons (.con (.int 2)) .nil))) (.con (.int 0))) b_law_tags_2 .nil) b_law_tags_5
def b_law_tags_0 : Ss := .cons (.asg (.name 2) (.con (.str "abcdefghijklmnopqrstuvwxyz"))) b_law_tags_1
def f_law_tags : Fn := ⟨2, 9, b_law_tags_0⟩
/-- _law_word: 0 pile, 1 tags, 2 most, 3 turn -/
def b_law_word_0 : Ss := .cons (.ret (.comp (.op2 .at_ (.var 1) (.call 2 (.cons (.var 0) (.cons (.op1 .len (.var 1)) .nil)))) [3] (.name 3) (.rng1 (.call 2 (.cons (.var 0) (.cons (.op2 .add (.var 2) (.con (.int 1))) .nil)))) .nil)) .nil
def f_law_word : Fn := ⟨3, 4, b_law_word_0⟩
/-- _law_written: 0 subject, 1 text, 2 tag -/
def b_law_written_2 : Ss := .cons (.asg (.name 1) (.op2 .add (.op2 .add (.var 1) (.con (.str " "))) (.var 2))) .nil
def b_law_written_3 : Ss := .cons (.ret (.op2 .at_ (.lst (.cons (.slice (.var 1) (.con (.int 1)) (.con .none)) (.cons (.con (.str "-")) .nil))) (.op1 .int_ (.op2 .eq (.var 0) (.lst .nil))))) .nil
def b_law_written_1 : Ss := .cons (.for_ (.name 2) (.each (.var 0)) b_law_written_2) b_law_written_3
def b_law_written_0 : Ss := .cons (.asg (.name 1) (.con (.str ""))) b_law_written_1
def f_law_written : Fn := ⟨1, 3, b_law_written_0⟩
/-- _law_bent: 0 pile, 1 text, 2 at, 3 sign, 4 menu -/
def b_law_bent_3 : Ss := .cons (.ret (.op2 .at_ (.op2 .add (.var 4) (.lst (.cons (.slice (.var 1) (.con .none) (.var 2)) (.cons (.op2 .add (.con (.str " ")) (.var 1)) (.cons (.op2 .add (.var 1) (.con (.str " "))) (.cons (.op2 .add (.op2 .add (.var 1) (.con (.str " "))) (.var 1)) .nil)))))) (.call 2 (.cons (.var 0) (.cons (.con (.int 8)) .nil))))) .nil
def b_law_bent_2 : Ss := .cons (.asg (.name 4) (.lst (.cons (.op2 .add (.op2 .add (.slice (.var 1) (.con .none) (.var 2)) (.var 3)) (.slice (.var 1) (.var 2) (.con .none))) (.cons (.op2 .add (.slice (.var 1) (.con .none) (.var 2)) (.slice (.var 1) (.op2 .add (.var 2) (.con (.int 1))) (.con .none))) (.cons (.op2 .add (.op2 .add (.slice (.var 1) (.con .none) (.var 2)) (.var 3)) (.slice (.var 1) (.op2 .add (.var 2) (.con (.int 1))) (.con .none))) (.cons (.slice (.var 1) (.var 2) (.con .none)) .nil)))))) b_law_bent_3
def b_law_bent_1 : Ss := .cons (.asg (.name 3) (.op2 .at_ (.lst (.cons (.con (.str " ")) (.cons (.con (.str "-")) (.cons (.con (.str "a")) (.cons (.con (.str "r")) (.cons (.con (.str "\n")) (.cons (.con (.str "A")) (.cons (.con (.str "  ")) (.cons (.con (.str "re")) .nil))))))))) (.call 2 (.cons (.var 0) (.cons (.con (.int 8)) .nil))))) b_law_bent_2
def b_law_bent_0 : Ss := .cons (.asg (.name 2) (.call 2 (.cons (.var 0) (.cons (.op2 .add (.op1 .len (.var 1)) (.con (.int 1))) .nil)))) b_law_bent_1
def f_law_bent : Fn := ⟨2, 5, b_law_bent_0⟩
/-- is_tag: 0 places, 1 thing -/
def bis_tag_0 : Ss := .cons (.ret (.and_ (.isi (.var 1) [.ty "str"]) (.op2 .in_ (.var 1) (.var 0)))) .nil
def fis_tag : Fn := ⟨2, 2, bis_tag_0⟩
/-- checked_word: 0 places, 1 subject, 2 limit, 3 found, 4 index, 5 thing -/
def bchecked_word_1 : Ss := .cons (.raise 2 (.cons (.con (.none)) .nil)) .nil
def bchecked_word_5 : Ss := .cons (.raise 2 (.cons (.var 4) .nil)) .nil
def bchecked_word_6 : Ss := .cons (.exp (.meth .append (.var 3) (.cons (.op2 .at_ (.var 0) (.var 5)) .nil))) .nil
def bchecked_word_4 : Ss := .cons (.ite (.op1 .not_ (.call 7 (.cons (.var 0) (.cons (.var 5) .nil)))) bchecked_word_5 .nil) bchecked_word_6
def bchecked_word_7 : Ss := .cons (.ret (.op1 .tuple_ (.var 3))) .nil
def bchecked_word_3 : Ss := .cons (.for_ (.tup (.cons (.name 4) (.cons (.name 5) .nil))) (.enum (.var 1)) bchecked_word_4) bchecked_word_7
def bchecked_word_2 : Ss := .cons (.asg (.name 3) (.lst .nil)) bchecked_word_3
def bchecked_word_0 : Ss := .cons (.ite (.or_ (.op1 .not_ (.isi (.var 1) [.ty "list"])) (.op2 .gt (.op1 .len (.var 1)) (.var 2))) bchecked_word_1 .nil) bchecked_word_2
def fchecked_word : Fn := ⟨3, 6, bchecked_word_0⟩
/-- word_text: 0 words -/
def bword_text_0 : Ss := .cons (.ret (.ite (.var 0) (.meth .join (.con (.str " ")) (.cons (.var 0) .nil)) (.con (.str "-")))) .nil
def fword_text : Fn := ⟨1, 1, bword_text_0⟩
/-- is_name: 0 thing, 1 letter -/
def bis_name_1 : Ss := .cons (.ret (.con (.bool false))) .nil
def bis_name_2 : Ss := .cons (.ret (.op1 .all_ (.comp (.op2 .in_ (.var 1) (.con (.str "abcdefghijklmnopqrstuvwxyz"))) [1] (.name 1) (.each (.var 0)) .nil))) .nil
def bis_name_0 : Ss := .cons (.ite (.or_ (.op1 .not_ (.isi (.var 0) [.ty "str"])) (.op1 .not_ (.chain .le .le (.con (.int 1)) (.op1 .len (.var 0)) (.con (.int 8))))) bis_name_1 .nil) bis_name_2
def fis_name : Fn := ⟨1, 2, bis_name_0⟩
/-- places_of: 0 tags, 1 found, 2 index, 3 thing -/
def bplaces_of_1 : Ss := .cons (.raise 1 (.cons (.con (.none)) .nil)) .nil
def bplaces_of_5 : Ss := .cons (.raise 1 (.cons (.var 2) .nil)) .nil
def bplaces_of_6 : Ss := .cons (.asg (.sub (.var 1) (.var 3)) (.var 2)) .nil
def bplaces_of_4 : Ss := .cons (.ite (.or_ (.op1 .not_ (.call 10 (.cons (.var 3) .nil))) (.op2 .in_ (.var 3) (.var 1))) bplaces_of_5 .nil) bplaces_of_6
def bplaces_of_7 : Ss := .cons (.ret (.var 1)) .nil
def bplaces_of_3 : Ss := .cons (.for_ (.tup (.cons (.name 2) (.cons (.name 3) .nil))) (.enum (.var 0)) bplaces_of_4) bplaces_of_7
def bplaces_of_2 : Ss := .cons (.asg (.name 1) .dct0) bplaces_of_3
def bplaces_of_0 : Ss := .cons (.ite (.or_ (.op1 .not_ (.isi (.var 0) [.ty "list"])) (.op1 .not_ (.chain .le .le (.con (.int 1)) (.op1 .len (.var 0)) (.con (.int 6))))) bplaces_of_1 .nil) bplaces_of_2
def fplaces_of : Fn := ⟨1, 4, bplaces_of_0⟩
/-- subject_text: 0 tags, 1 subject -/
def bsubject_text_1 : Ss := .cons (.ret (.call 9 (.cons (.var 1) .nil))) .nil
def bsubject_text_0 : Ss := .cons (.exp (.call 8 (.cons (.call 11 (.cons (.var 0) .nil)) (.cons (.var 1) (.cons (.con (.int 200)) .nil))))) bsubject_text_1
def fsubject_text : Fn := ⟨2, 2, bsubject_text_0⟩
/-- tags_of: 0 places, 1 text, 2 limit, 3 words, 4 word -/
def btags_of_1 : Ss := .cons (.ret (.lst .nil)) .nil
def btags_of_4 : Ss := .cons (.ret (.con (.none))) .nil
def btags_of_5 : Ss := .cons (.ret (.var 3)) .nil
def btags_of_3 : Ss := .cons (.ite (.or_ (.op2 .gt (.op1 .len (.var 3)) (.var 2)) (.op1 .not_ (.op1 .all_ (.comp (.call 7 (.cons (.var 0) (.cons (.var 4) .nil))) [4] (.name 4) (.each (.var 3)) .nil)))) btags_of_4 .nil) btags_of_5
def btags_of_2 : Ss := .cons (.asg (.name 3) (.meth .split (.var 1) (.cons (.con (.str " ")) .nil))) btags_of_3
def btags_of_0 : Ss := .cons (.ite (.op2 .eq (.var 1) (.con (.str "-"))) btags_of_1 .nil) btags_of_2
def ftags_of : Fn := ⟨3, 5, btags_of_0⟩
/-- read_subject: 0 tags, 1 text, 2 places, 3 found -/
def bread_subject_2 : Ss := .cons (.raise 4 (.cons (.con (.none)) .nil)) .nil
def bread_subject_5 : Ss := .cons (.raise 4 (.cons (.con (.int 0)) .nil)) .nil
def bread_subject_6 : Ss := .cons (.ret (.var 3)) .nil
def bread_subject_4 : Ss := .cons (.ite (.op1 .isN (.var 3)) bread_subject_5 .nil) bread_subject_6
def bread_subject_3 : Ss := .cons (.asg (.name 3) (.call 13 (.cons (.var 2) (.cons (.var 1) (.cons (.con (.int 200)) .nil))))) bread_subject_4
def bread_subject_1 : Ss := .cons (.ite (.op1 .not_ (.isi (.var 1) [.ty "str"])) bread_subject_2 .nil) bread_subject_3
def bread_subject_0 : Ss := .cons (.asg (.name 2) (.call 11 (.cons (.var 0) .nil))) bread_subject_1
def fread_subject : Fn := ⟨2, 4, bread_subject_0⟩
/-- _law_told: 0 way, 1 tags, 2 thing, 3 error, 4 found, 5 e -/
def b_law_told_4 : Ss := .cons (.asg (.name 4) (.lst (.cons (.con (.str "text of")) (.cons (.call 12 (.cons (.var 1) (.cons (.var 2) .nil))) .nil)))) .nil
def b_law_told_5 : Ss := .cons (.asg (.name 4) (.lst (.cons (.con (.str "subject of")) (.cons (.call 14 (.cons (.var 1) (.cons (.var 2) .nil))) .nil)))) .nil
def b_law_told_3 : Ss := .cons (.ite (.op2 .eq (.var 0) (.con (.int 0))) b_law_told_4 b_law_told_5) .nil
def b_law_told_7 : Ss := .cons (.ret (.var 4)) .nil
def b_law_told_9 : Ss := .cons (.ret (.lst (.cons (.con (.str "odd")) .nil))) .nil
def b_law_told_11 : Ss := .cons (.ret (.lst (.cons (.con (.str "tags")) (.cons (.fld (.var 3) "index") .nil)))) .nil
def b_law_told_13 : Ss := .cons (.ret (.lst (.cons (.con (.str "subject")) (.cons (.fld (.var 3) "index") .nil)))) .nil
def b_law_told_14 : Ss := .cons (.ret (.lst (.cons (.con (.str "line")) (.cons (.and_ (.isi (.var 3) [.own 4]) (.fld (.var 3) "line")) .nil)))) .nil
def b_law_told_12 : Ss := .cons (.ite (.isi (.var 3) [.own 2]) b_law_told_13 .nil) b_law_told_14
def b_law_told_10 : Ss := .cons (.ite (.isi (.var 3) [.own 1]) b_law_told_11 .nil) b_law_told_12
def b_law_told_8 : Ss := .cons (.ite (.or_ (.isi (.var 3) [.own 3]) (.op1 .not_ (.isi (.var 3) [.ty "ValueError"]))) b_law_told_9 .nil) b_law_told_10
def b_law_told_6 : Ss := .cons (.ite (.op1 .isN (.var 3)) b_law_told_7 .nil) b_law_told_8
def b_law_told_2 : Ss := .cons (.tryAs b_law_told_3 (.own 0) 5 3) b_law_told_6
def b_law_told_1 : Ss := .cons (.asg (.name 4) (.con (.none))) b_law_told_2
def b_law_told_0 : Ss := .cons (.asg (.name 3) (.con (.none))) b_law_told_1
def f_law_told : Fn := ⟨3, 6, b_law_told_0⟩
/-- _law_text_due: 0 tags, 1 text, 2 words, 3 word -/
def b_law_text_due_1 : Ss := .cons (.ret (.lst (.cons (.con (.str "line")) (.cons (.con (.none)) .nil)))) .nil
def b_law_text_due_3 : Ss := .cons (.ret (.lst (.cons (.con (.str "subject of")) (.cons (.lst .nil) .nil)))) .nil
def b_law_text_due_6 : Ss := .cons (.ret (.lst (.cons (.con (.str "line")) (.cons (.con (.int 0)) .nil)))) .nil
def b_law_text_due_7 : Ss := .cons (.ret (.lst (.cons (.con (.str "subject of")) (.cons (.var 2) .nil)))) .nil
def b_law_text_due_5 : Ss := .cons (.ite (.or_ (.op2 .gt (.op1 .len (.var 2)) (.con (.int 200))) (.op2 .ne (.comp (.var 3) [3] (.name 3) (.each (.var 2)) (.cons (.op2 .notin (.var 3) (.var 0)) .nil)) (.lst .nil))) b_law_text_due_6 .nil) b_law_text_due_7
def b_law_text_due_4 : Ss := .cons (.asg (.name 2) (.meth .split (.var 1) (.cons (.con (.str " ")) .nil))) b_law_text_due_5
def b_law_text_due_2 : Ss := .cons (.ite (.op2 .eq (.var 1) (.con (.str "-"))) b_law_text_due_3 .nil) b_law_text_due_4
def b_law_text_due_0 : Ss := .cons (.ite (.op1 .not_ (.isi (.var 1) [.ty "str"])) b_law_text_due_1 .nil) b_law_text_due_2
def f_law_text_due : Fn := ⟨2, 4, b_law_text_due_0⟩
/-- _law_subject_due: 0 tags, 1 subject, 2 k, 3 tag -/
def b_law_subject_due_1 : Ss := .cons (.ret (.lst (.cons (.con (.str "subject")) (.cons (.con (.none)) .nil)))) .nil
def b_law_subject_due_4 : Ss := .cons (.ret (.lst (.cons (.con (.str "subject")) (.cons (.var 2) .nil)))) .nil
def b_law_subject_due_3 : Ss := .cons (.ite (.or_ (.op1 .not_ (.isi (.var 3) [.ty "str"])) (.op2 .notin (.var 3) (.var 0))) b_law_subject_due_4 .nil) .nil
def b_law_subject_due_5 : Ss := .cons (.ret (.lst (.cons (.con (.str "text of")) (.cons (.call 5 (.cons (.var 1) .nil)) .nil)))) .nil
def b_law_subject_due_2 : Ss := .cons (.for_ (.tup (.cons (.name 2) (.cons (.name 3) .nil))) (.enum (.var 1)) b_law_subject_due_3) b_law_subject_due_5
def b_law_subject_due_0 : Ss := .cons (.ite (.or_ (.op1 .not_ (.isi (.var 1) [.ty "list"])) (.op2 .gt (.op1 .len (.var 1)) (.con (.int 200)))) b_law_subject_due_1 .nil) b_law_subject_due_2
def f_law_subject_due : Fn := ⟨2, 4, b_law_subject_due_0⟩
/-- law: 0 script, 1 at, 2 pile, 3 tags, 4 subject, 5 full, 6 odd, 7 place, 8 spoilt, 9 some, 10 text, 11 bent_text, 12 texts, 13 before, 14 wrong, 15 due, 16 way, 17 thing -/
def blaw_11 : Ss := .cons (.ret (.con (.bool false))) .nil
def blaw_10 : Ss := .cons (.ite (.or_ (.op2 .ne (.call 15 (.cons (.con (.int 0)) (.cons (.var 3) (.cons (.var 9) .nil)))) (.call 17 (.cons (.var 3) (.cons (.var 9) .nil)))) (.op2 .ne (.op1 .str_ (.var 9)) (.var 13))) blaw_11 .nil) .nil
def blaw_9 : Ss := .cons (.asg (.name 13) (.op1 .str_ (.var 9))) blaw_10
def blaw_17 : Ss := .cons (.ret (.con (.bool false))) .nil
def blaw_16 : Ss := .cons (.ite (.op2 .ne (.call 15 (.cons (.con (.int 1)) (.cons (.var 3) (.cons (.var 9) .nil)))) (.call 16 (.cons (.var 3) (.cons (.var 9) .nil)))) blaw_17 .nil) .nil
def blaw_23 : Ss := .cons (.ret (.con (.bool false))) .nil
def blaw_22 : Ss := .cons (.ite (.op2 .ne (.call 15 (.cons (.var 16) (.cons (.var 14) (.cons (.var 17) .nil)))) (.lst (.cons (.con (.str "tags")) (.cons (.var 15) .nil)))) blaw_23 .nil) .nil
def blaw_21 : Ss := .cons (.for_ (.name 17) (.each (.lst (.cons (.var 4) (.cons (.var 10) (.cons (.con (.none)) (.cons (.con (.int 0)) (.cons (.op1 .tuple_ (.var 3)) (.cons (.op2 .mul (.lst (.cons (.con (.none)) .nil)) (.con (.int 201))) .nil)))))))) blaw_22) .nil
def blaw_20 : Ss := .cons (.for_ (.name 16) (.each (.lst (.cons (.con (.int 0)) (.cons (.con (.int 1)) .nil)))) blaw_21) .nil
def blaw_19 : Ss := .cons (.ite (.or_ (.op2 .lt (.op1 .len (.var 3)) (.con (.int 6))) (.op2 .ne (.var 14) (.op2 .add (.var 3) (.slice (.var 3) (.con .none) (.con (.int 1)))))) blaw_20 .nil) .nil
def blaw_18 : Ss := .cons (.for_ (.tup (.cons (.name 14) (.cons (.name 15) .nil))) (.each (.lst (.cons (.tup (.cons (.op2 .add (.var 3) (.slice (.var 3) (.con .none) (.con (.int 1)))) (.cons (.op1 .len (.var 3)) .nil))) (.cons (.tup (.cons (.lst .nil) (.cons (.con (.none)) .nil))) (.cons (.tup (.cons (.con (.none)) (.cons (.con (.none)) .nil))) (.cons (.tup (.cons (.op2 .add (.slice (.var 3) (.con .none) (.con (.int 1))) (.lst (.cons (.con (.str "a b")) .nil))) (.cons (.con (.int 1)) .nil))) .nil)))))) blaw_19) .nil
def blaw_15 : Ss := .cons (.for_ (.name 9) (.each (.op2 .add (.var 12) (.lst (.cons (.con (.none)) (.cons (.con (.int 0)) (.cons (.var 4) .nil)))))) blaw_16) blaw_18
def blaw_14 : Ss := .cons (.asg (.name 12) (.lst (.cons (.var 10) (.cons (.var 11) (.cons (.call 6 (.cons (.var 2) (.cons (.var 11) .nil))) (.cons (.call 5 (.cons (.var 5) .nil)) (.cons (.con (.str "")) (.cons (.con (.str "-")) (.cons (.con (.str "--")) (.cons (.con (.str "- -")) (.cons (.con (.str " -")) .nil))))))))))) blaw_15
def blaw_13 : Ss := .cons (.asg (.name 11) (.call 6 (.cons (.var 2) (.cons (.var 10) .nil)))) blaw_14
def blaw_12 : Ss := .cons (.asg (.name 10) (.call 5 (.cons (.var 4) .nil))) blaw_13
def blaw_8 : Ss := .cons (.for_ (.name 9) (.each (.lst (.cons (.var 4) (.cons (.var 8) (.cons (.op2 .add (.var 8) (.lst (.cons (.con (.none)) .nil))) (.cons (.var 5) (.cons (.op1 .tuple_ (.var 4)) (.cons (.con (.none)) (.cons (.op2 .at_ (.var 3) (.con (.int 0))) (.cons (.op2 .mul (.lst (.cons (.con (.none)) .nil)) (.con (.int 201))) (.cons (.lst .nil) .nil))))))))))) blaw_9) blaw_12
def blaw_7 : Ss := .cons (.asg (.name 8) (.op2 .add (.op2 .add (.slice (.var 4) (.con .none) (.var 7)) (.lst (.cons (.var 6) .nil))) (.slice (.var 4) (.var 7) (.con .none)))) blaw_8
def blaw_6 : Ss := .cons (.asg (.name 7) (.call 2 (.cons (.var 2) (.cons (.op2 .add (.op1 .len (.var 4)) (.con (.int 1))) .nil)))) blaw_7
def blaw_5 : Ss := .cons (.asg (.name 6) (.op2 .at_ (.lst (.cons (.op2 .add (.op2 .at_ (.var 3) (.con (.int 0))) (.con (.str "q"))) (.cons (.con (.none)) (.cons (.con (.int 0)) (.cons (.con (.str "")) (.cons (.lst (.cons (.op2 .at_ (.var 3) (.con (.int 0))) .nil)) (.cons (.con (.str "A")) (.cons (.op2 .at_ (.var 3) (.con (.int 0))) (.cons (.con (.str "-")) .nil))))))))) (.call 2 (.cons (.var 2) (.cons (.con (.int 8)) .nil))))) blaw_6
def blaw_4 : Ss := .cons (.asg (.name 5) (.op2 .mul (.slice (.var 3) (.con .none) (.con (.int 1))) (.op2 .add (.con (.int 199)) (.call 2 (.cons (.var 2) (.cons (.con (.int 3)) .nil)))))) blaw_5
def blaw_3 : Ss := .cons (.asg (.name 4) (.call 4 (.cons (.var 2) (.cons (.var 3) (.cons (.con (.int 8)) .nil))))) blaw_4
def blaw_2 : Ss := .cons (.asg (.name 3) (.call 3 (.cons (.var 2) (.cons (.op2 .add (.con (.int 1)) (.call 2 (.cons (.var 2) (.cons (.con (.int 6)) .nil)))) .nil)))) blaw_3
def blaw_1 : Ss := .cons (.asg (.name 2) (.call 0 (.cons (.var 0) (.cons (.var 1) .nil)))) blaw_2
def blaw_24 : Ss := .cons (.ret (.con (.bool true))) .nil
def blaw_0 : Ss := .cons (.for_ (.name 1) (.rng1 (.con (.int 6))) blaw_1) blaw_24
def flaw : Fn := ⟨1, 18, blaw_0⟩
def fns : List Fn := [f_law_pile, f_law_mixed, f_law_take, f_law_tags, f_law_word, f_law_written, f_law_bent, fis_tag, fchecked_word, fword_text, fis_name, fplaces_of, fsubject_text, ftags_of, fread_subject, f_law_told, f_law_text_due, f_law_subject_due, flaw]
def tbl : Nat → Option Fn := fun f => fns[f]?
def efl : List (List Str) := [[], ["index"], ["index"], ["index"], ["line"]]
def otab : List (List Cl) := [[.own 0, .ty "ValueError"], [.own 1, .own 0, .ty "ValueError"], [.own 2, .own 0, .ty "ValueError"], [.own 3, .own 0, .ty "ValueError"], [.own 4, .own 0, .ty "ValueError"]]
abbrev G0 (ns : List Int) : Glo := ⟨ns, fun c => efl.getD c [], fun c cl => (otab.getD c []).any (eqCl cl)⟩
theorem iso_1_InvalidEater : (otab.getD 1 []).any (eqCl (.own 3)) = false := rfl
theorem iso_1_InvalidSubject : (otab.getD 1 []).any (eqCl (.own 2)) = false := rfl
theorem iso_1_InvalidTags : (otab.getD 1 []).any (eqCl (.own 1)) = true := rfl
theorem iso_1_InvalidText : (otab.getD 1 []).any (eqCl (.own 4)) = false := rfl
theorem iso_1_TagError : (otab.getD 1 []).any (eqCl (.own 0)) = true := rfl
theorem iso_1_ValueError : (otab.getD 1 []).any (eqCl (.ty "ValueError")) = true := rfl
theorem iso_1_list : (otab.getD 1 []).any (eqCl (.ty "list")) = false := rfl
theorem iso_1_str : (otab.getD 1 []).any (eqCl (.ty "str")) = false := rfl
theorem efs_1 : efl.getD 1 [] = (["index"] : List Str) := rfl
theorem iso_2_InvalidEater : (otab.getD 2 []).any (eqCl (.own 3)) = false := rfl
theorem iso_2_InvalidSubject : (otab.getD 2 []).any (eqCl (.own 2)) = true := rfl
theorem iso_2_InvalidTags : (otab.getD 2 []).any (eqCl (.own 1)) = false := rfl
theorem iso_2_InvalidText : (otab.getD 2 []).any (eqCl (.own 4)) = false := rfl
theorem iso_2_TagError : (otab.getD 2 []).any (eqCl (.own 0)) = true := rfl
theorem iso_2_ValueError : (otab.getD 2 []).any (eqCl (.ty "ValueError")) = true := rfl
theorem iso_2_list : (otab.getD 2 []).any (eqCl (.ty "list")) = false := rfl
theorem iso_2_str : (otab.getD 2 []).any (eqCl (.ty "str")) = false := rfl
theorem efs_2 : efl.getD 2 [] = (["index"] : List Str) := rfl
theorem iso_4_InvalidEater : (otab.getD 4 []).any (eqCl (.own 3)) = false := rfl
theorem iso_4_InvalidSubject : (otab.getD 4 []).any (eqCl (.own 2)) = false := rfl
theorem iso_4_InvalidTags : (otab.getD 4 []).any (eqCl (.own 1)) = false := rfl
theorem iso_4_InvalidText : (otab.getD 4 []).any (eqCl (.own 4)) = true := rfl
theorem iso_4_TagError : (otab.getD 4 []).any (eqCl (.own 0)) = true := rfl
theorem iso_4_ValueError : (otab.getD 4 []).any (eqCl (.ty "ValueError")) = true := rfl
theorem iso_4_list : (otab.getD 4 []).any (eqCl (.ty "list")) = false := rfl
theorem iso_4_str : (otab.getD 4 []).any (eqCl (.ty "str")) = false := rfl
theorem efs_4 : efl.getD 4 [] = (["line"] : List Str) := rfl
abbrev n_law_pile : Nat := 0
abbrev n_law_mixed : Nat := 1
abbrev n_law_take : Nat := 2
abbrev n_law_tags : Nat := 3
abbrev n_law_word : Nat := 4
abbrev n_law_written : Nat := 5
abbrev n_law_bent : Nat := 6
abbrev nis_tag : Nat := 7
abbrev nchecked_word : Nat := 8
abbrev nword_text : Nat := 9
abbrev nis_name : Nat := 10
abbrev nplaces_of : Nat := 11
abbrev nsubject_text : Nat := 12
abbrev ntags_of : Nat := 13
abbrev nread_subject : Nat := 14
abbrev n_law_told : Nat := 15
abbrev n_law_text_due : Nat := 16
abbrev n_law_subject_due : Nat := 17
abbrev nlaw : Nat := 18
end K60
namespace K60
open PySem L2 MP
open PySem.Spec PyProof.Rows
def top (i : Nat) : Stmt := PySem.Challenge.pw_subjecttags_k60_subjects_as_text.main.body.getD i (.Pass ⟨0, 0, 0, 0⟩)
def ini (i : Nat) : Stmt := match top i with
  | .ClassDef _ _ _ b _ _ _ _ _ _ _ => b.getD 0 (.Pass ⟨0, 0, 0, 0⟩)
  | s => s
def d_law_pile : DI := ⟨"_law_pile", top 22, ["script", "k", "cell", "great"], ["script", "k"], f_law_pile⟩
def d_law_mixed : DI := ⟨"_law_mixed", top 21, ["cell", "k", "number"], ["cell", "k"], f_law_mixed⟩
def d_law_take : DI := ⟨"_law_take", top 23, ["pile", "many", "digit"], ["pile", "many"], f_law_take⟩
def d_law_tags : DI := ⟨"_law_tags", top 25, ["pile", "many", "letters", "stem", "at", "shift", "pace", "plain", "k"], ["pile", "many"], f_law_tags⟩
def d_law_word : DI := ⟨"_law_word", top 26, ["pile", "tags", "most", "turn"], ["pile", "tags", "most"], f_law_word⟩
def d_law_written : DI := ⟨"_law_written", top 31, ["subject", "text", "tag"], ["subject"], f_law_written⟩
def d_law_bent : DI := ⟨"_law_bent", top 34, ["pile", "text", "at", "sign", "menu"], ["pile", "text"], f_law_bent⟩
def dis_tag : DI := ⟨"is_tag", top 13, ["places", "thing"], ["places", "thing"], fis_tag⟩
def dchecked_word : DI := ⟨"checked_word", top 14, ["places", "subject", "limit", "found", "index", "thing"], ["places", "subject", "limit"], fchecked_word⟩
def dword_text : DI := ⟨"word_text", top 16, ["words"], ["words"], fword_text⟩
def dis_name : DI := ⟨"is_name", top 11, ["thing", "letter"], ["thing"], fis_name⟩
def dplaces_of : DI := ⟨"places_of", top 12, ["tags", "found", "index", "thing"], ["tags"], fplaces_of⟩
def dsubject_text : DI := ⟨"subject_text", top 18, ["tags", "subject"], ["tags", "subject"], fsubject_text⟩
def dtags_of : DI := ⟨"tags_of", top 17, ["places", "text", "limit", "words", "word"], ["places", "text", "limit"], ftags_of⟩
def dread_subject : DI := ⟨"read_subject", top 19, ["tags", "text", "places", "found"], ["tags", "text"], fread_subject⟩
def d_law_told : DI := ⟨"_law_told", top 30, ["way", "tags", "thing", "error", "found", "e"], ["way", "tags", "thing"], f_law_told⟩
def d_law_text_due : DI := ⟨"_law_text_due", top 33, ["tags", "text", "words", "word"], ["tags", "text"], f_law_text_due⟩
def d_law_subject_due : DI := ⟨"_law_subject_due", top 32, ["tags", "subject", "k", "tag"], ["tags", "subject"], f_law_subject_due⟩
def dlaw : DI := ⟨"law", top 35, ["script", "at", "pile", "tags", "subject", "full", "odd", "place", "spoilt", "some", "text", "bent_text", "texts", "before", "wrong", "due", "way", "thing"], ["script"], flaw⟩
def xInvalidTags : XI := ⟨1, "InvalidTags", "index", ini 2⟩
def xInvalidSubject : XI := ⟨2, "InvalidSubject", "index", ini 3⟩
def xInvalidText : XI := ⟨4, "InvalidText", "line", ini 5⟩
def ls : LS where
  fn := [("_law_pile", 0), ("_law_mixed", 1), ("_law_take", 2), ("_law_tags", 3), ("_law_word", 4), ("_law_written", 5), ("_law_bent", 6), ("is_tag", 7), ("checked_word", 8), ("word_text", 9), ("is_name", 10), ("places_of", 11), ("subject_text", 12), ("tags_of", 13), ("read_subject", 14), ("_law_told", 15), ("_law_text_due", 16), ("_law_subject_due", 17), ("law", 18)]
  xc := [("InvalidTags", 1, "index"), ("InvalidSubject", 2, "index"), ("InvalidText", 4, "line")]
  cl := [("InvalidEater", .own 3), ("InvalidSubject", .own 2), ("InvalidTags", .own 1), ("InvalidText", .own 4), ("TagError", .own 0), ("ValueError", .ty "ValueError"), ("list", .ty "list"), ("str", .ty "str")]
  con := [("LETTERS", .str "abcdefghijklmnopqrstuvwxyz"), ("LONGEST_NAME", .int 8), ("LONGEST_SUBJECT", .int 200), ("MOST_TAGS", .int 6)]
  free := ["abs", "all", "enumerate", "int", "isinstance", "len", "range", "str", "tuple"]
def D : LD where
  cs := ["TagError", "InvalidTags", "InvalidSubject", "InvalidEater", "InvalidText"]
  fl := efl
  tab := otab
  cls := [.own 3, .own 2, .own 1, .own 4, .own 0, .ty "ValueError", .ty "list", .ty "str"]
  base := 0
  L := ls
  ds := [d_law_pile, d_law_mixed, d_law_take, d_law_tags, d_law_word, d_law_written, d_law_bent, dis_tag, dchecked_word, dword_text, dis_name, dplaces_of, dsubject_text, dtags_of, dread_subject, d_law_told, d_law_text_due, d_law_subject_due, dlaw]
  xs := [xInvalidTags, xInvalidSubject, xInvalidText]
  law := 18
theorem c_law_pile : ckSs ls 200 ⟨d_law_pile.N, (defScope d_law_pile.st).names, (defScope d_law_pile.st).names⟩ (defBody d_law_pile.st) d_law_pile.fn.body = true := by kernel_rfl
theorem o_law_pile : DIok ls d_law_pile := ⟨⟨by kernel_rfl, by kernel_rfl, by kernel_rfl, by decide +kernel, by kernel_rfl, by decide +kernel, by decide +kernel⟩, ⟨_, c_law_pile⟩, by kernel_rfl, by kernel_rfl, fun _ _ _ _ _ _ us h => match us, h with | [_, _], _ => rfl⟩
theorem c_law_mixed : ckSs ls 200 ⟨d_law_mixed.N, (defScope d_law_mixed.st).names, (defScope d_law_mixed.st).names⟩ (defBody d_law_mixed.st) d_law_mixed.fn.body = true := by kernel_rfl
theorem o_law_mixed : DIok ls d_law_mixed := ⟨⟨by kernel_rfl, by kernel_rfl, by kernel_rfl, by decide +kernel, by kernel_rfl, by decide +kernel, by decide +kernel⟩, ⟨_, c_law_mixed⟩, by kernel_rfl, by kernel_rfl, fun _ _ _ _ _ _ us h => match us, h with | [_, _], _ => rfl⟩
theorem c_law_take : ckSs ls 200 ⟨d_law_take.N, (defScope d_law_take.st).names, (defScope d_law_take.st).names⟩ (defBody d_law_take.st) d_law_take.fn.body = true := by kernel_rfl
theorem o_law_take : DIok ls d_law_take := ⟨⟨by kernel_rfl, by kernel_rfl, by kernel_rfl, by decide +kernel, by kernel_rfl, by decide +kernel, by decide +kernel⟩, ⟨_, c_law_take⟩, by kernel_rfl, by kernel_rfl, fun _ _ _ _ _ _ us h => match us, h with | [_, _], _ => rfl⟩
theorem c_law_tags : ckSs ls 200 ⟨d_law_tags.N, (defScope d_law_tags.st).names, (defScope d_law_tags.st).names⟩ (defBody d_law_tags.st) d_law_tags.fn.body = true := by kernel_rfl
theorem o_law_tags : DIok ls d_law_tags := ⟨⟨by kernel_rfl, by kernel_rfl, by kernel_rfl, by decide +kernel, by kernel_rfl, by decide +kernel, by decide +kernel⟩, ⟨_, c_law_tags⟩, by kernel_rfl, by kernel_rfl, fun _ _ _ _ _ _ us h => match us, h with | [_, _], _ => rfl⟩
theorem c_law_word : ckSs ls 200 ⟨d_law_word.N, (defScope d_law_word.st).names, (defScope d_law_word.st).names⟩ (defBody d_law_word.st) d_law_word.fn.body = true := by kernel_rfl
theorem o_law_word : DIok ls d_law_word := ⟨⟨by kernel_rfl, by kernel_rfl, by kernel_rfl, by decide +kernel, by kernel_rfl, by decide +kernel, by decide +kernel⟩, ⟨_, c_law_word⟩, by kernel_rfl, by kernel_rfl, fun _ _ _ _ _ _ us h => match us, h with | [_, _, _], _ => rfl⟩
theorem c_law_written : ckSs ls 200 ⟨d_law_written.N, (defScope d_law_written.st).names, (defScope d_law_written.st).names⟩ (defBody d_law_written.st) d_law_written.fn.body = true := by kernel_rfl
theorem o_law_written : DIok ls d_law_written := ⟨⟨by kernel_rfl, by kernel_rfl, by kernel_rfl, by decide +kernel, by kernel_rfl, by decide +kernel, by decide +kernel⟩, ⟨_, c_law_written⟩, by kernel_rfl, by kernel_rfl, fun _ _ _ _ _ _ us h => match us, h with | [_], _ => rfl⟩
theorem c_law_bent : ckSs ls 200 ⟨d_law_bent.N, (defScope d_law_bent.st).names, (defScope d_law_bent.st).names⟩ (defBody d_law_bent.st) d_law_bent.fn.body = true := by kernel_rfl
theorem o_law_bent : DIok ls d_law_bent := ⟨⟨by kernel_rfl, by kernel_rfl, by kernel_rfl, by decide +kernel, by kernel_rfl, by decide +kernel, by decide +kernel⟩, ⟨_, c_law_bent⟩, by kernel_rfl, by kernel_rfl, fun _ _ _ _ _ _ us h => match us, h with | [_, _], _ => rfl⟩
theorem cis_tag : ckSs ls 200 ⟨dis_tag.N, (defScope dis_tag.st).names, (defScope dis_tag.st).names⟩ (defBody dis_tag.st) dis_tag.fn.body = true := by kernel_rfl
theorem ois_tag : DIok ls dis_tag := ⟨⟨by kernel_rfl, by kernel_rfl, by kernel_rfl, by decide +kernel, by kernel_rfl, by decide +kernel, by decide +kernel⟩, ⟨_, cis_tag⟩, by kernel_rfl, by kernel_rfl, fun _ _ _ _ _ _ us h => match us, h with | [_, _], _ => rfl⟩
theorem cchecked_word : ckSs ls 200 ⟨dchecked_word.N, (defScope dchecked_word.st).names, (defScope dchecked_word.st).names⟩ (defBody dchecked_word.st) dchecked_word.fn.body = true := by kernel_rfl
theorem ochecked_word : DIok ls dchecked_word := ⟨⟨by kernel_rfl, by kernel_rfl, by kernel_rfl, by decide +kernel, by kernel_rfl, by decide +kernel, by decide +kernel⟩, ⟨_, cchecked_word⟩, by kernel_rfl, by kernel_rfl, fun _ _ _ _ _ _ us h => match us, h with | [_, _, _], _ => rfl⟩
theorem cword_text : ckSs ls 200 ⟨dword_text.N, (defScope dword_text.st).names, (defScope dword_text.st).names⟩ (defBody dword_text.st) dword_text.fn.body = true := by kernel_rfl
theorem oword_text : DIok ls dword_text := ⟨⟨by kernel_rfl, by kernel_rfl, by kernel_rfl, by decide +kernel, by kernel_rfl, by decide +kernel, by decide +kernel⟩, ⟨_, cword_text⟩, by kernel_rfl, by kernel_rfl, fun _ _ _ _ _ _ us h => match us, h with | [_], _ => rfl⟩
theorem cis_name : ckSs ls 200 ⟨dis_name.N, (defScope dis_name.st).names, (defScope dis_name.st).names⟩ (defBody dis_name.st) dis_name.fn.body = true := by kernel_rfl
theorem ois_name : DIok ls dis_name := ⟨⟨by kernel_rfl, by kernel_rfl, by kernel_rfl, by decide +kernel, by kernel_rfl, by decide +kernel, by decide +kernel⟩, ⟨_, cis_name⟩, by kernel_rfl, by kernel_rfl, fun _ _ _ _ _ _ us h => match us, h with | [_], _ => rfl⟩
theorem cplaces_of : ckSs ls 200 ⟨dplaces_of.N, (defScope dplaces_of.st).names, (defScope dplaces_of.st).names⟩ (defBody dplaces_of.st) dplaces_of.fn.body = true := by kernel_rfl
theorem oplaces_of : DIok ls dplaces_of := ⟨⟨by kernel_rfl, by kernel_rfl, by kernel_rfl, by decide +kernel, by kernel_rfl, by decide +kernel, by decide +kernel⟩, ⟨_, cplaces_of⟩, by kernel_rfl, by kernel_rfl, fun _ _ _ _ _ _ us h => match us, h with | [_], _ => rfl⟩
theorem csubject_text : ckSs ls 200 ⟨dsubject_text.N, (defScope dsubject_text.st).names, (defScope dsubject_text.st).names⟩ (defBody dsubject_text.st) dsubject_text.fn.body = true := by kernel_rfl
theorem osubject_text : DIok ls dsubject_text := ⟨⟨by kernel_rfl, by kernel_rfl, by kernel_rfl, by decide +kernel, by kernel_rfl, by decide +kernel, by decide +kernel⟩, ⟨_, csubject_text⟩, by kernel_rfl, by kernel_rfl, fun _ _ _ _ _ _ us h => match us, h with | [_, _], _ => rfl⟩
theorem ctags_of : ckSs ls 200 ⟨dtags_of.N, (defScope dtags_of.st).names, (defScope dtags_of.st).names⟩ (defBody dtags_of.st) dtags_of.fn.body = true := by kernel_rfl
theorem otags_of : DIok ls dtags_of := ⟨⟨by kernel_rfl, by kernel_rfl, by kernel_rfl, by decide +kernel, by kernel_rfl, by decide +kernel, by decide +kernel⟩, ⟨_, ctags_of⟩, by kernel_rfl, by kernel_rfl, fun _ _ _ _ _ _ us h => match us, h with | [_, _, _], _ => rfl⟩
theorem cread_subject : ckSs ls 200 ⟨dread_subject.N, (defScope dread_subject.st).names, (defScope dread_subject.st).names⟩ (defBody dread_subject.st) dread_subject.fn.body = true := by kernel_rfl
theorem oread_subject : DIok ls dread_subject := ⟨⟨by kernel_rfl, by kernel_rfl, by kernel_rfl, by decide +kernel, by kernel_rfl, by decide +kernel, by decide +kernel⟩, ⟨_, cread_subject⟩, by kernel_rfl, by kernel_rfl, fun _ _ _ _ _ _ us h => match us, h with | [_, _], _ => rfl⟩
theorem c_law_told : ckSs ls 200 ⟨d_law_told.N, (defScope d_law_told.st).names, (defScope d_law_told.st).names⟩ (defBody d_law_told.st) d_law_told.fn.body = true := by kernel_rfl
theorem o_law_told : DIok ls d_law_told := ⟨⟨by kernel_rfl, by kernel_rfl, by kernel_rfl, by decide +kernel, by kernel_rfl, by decide +kernel, by decide +kernel⟩, ⟨_, c_law_told⟩, by kernel_rfl, by kernel_rfl, fun _ _ _ _ _ _ us h => match us, h with | [_, _, _], _ => rfl⟩
theorem c_law_text_due : ckSs ls 200 ⟨d_law_text_due.N, (defScope d_law_text_due.st).names, (defScope d_law_text_due.st).names⟩ (defBody d_law_text_due.st) d_law_text_due.fn.body = true := by kernel_rfl
theorem o_law_text_due : DIok ls d_law_text_due := ⟨⟨by kernel_rfl, by kernel_rfl, by kernel_rfl, by decide +kernel, by kernel_rfl, by decide +kernel, by decide +kernel⟩, ⟨_, c_law_text_due⟩, by kernel_rfl, by kernel_rfl, fun _ _ _ _ _ _ us h => match us, h with | [_, _], _ => rfl⟩
theorem c_law_subject_due : ckSs ls 200 ⟨d_law_subject_due.N, (defScope d_law_subject_due.st).names, (defScope d_law_subject_due.st).names⟩ (defBody d_law_subject_due.st) d_law_subject_due.fn.body = true := by kernel_rfl
theorem o_law_subject_due : DIok ls d_law_subject_due := ⟨⟨by kernel_rfl, by kernel_rfl, by kernel_rfl, by decide +kernel, by kernel_rfl, by decide +kernel, by decide +kernel⟩, ⟨_, c_law_subject_due⟩, by kernel_rfl, by kernel_rfl, fun _ _ _ _ _ _ us h => match us, h with | [_, _], _ => rfl⟩
theorem claw : ckSs ls 200 ⟨dlaw.N, (defScope dlaw.st).names, (defScope dlaw.st).names⟩ (defBody dlaw.st) dlaw.fn.body = true := by kernel_rfl
theorem olaw : DIok ls dlaw := ⟨⟨by kernel_rfl, by kernel_rfl, by kernel_rfl, by decide +kernel, by kernel_rfl, by decide +kernel, by decide +kernel⟩, ⟨_, claw⟩, by kernel_rfl, by kernel_rfl, fun _ _ _ _ _ _ us h => match us, h with | [_], _ => rfl⟩
theorem oInvalidTags : XIok D xInvalidTags where
  S := ⟨by kernel_rfl, by kernel_rfl, by kernel_rfl, by decide +kernel, by kernel_rfl, by decide +kernel, by decide +kernel⟩
  B := ⟨⟨_, _, _, _, _, _, _, _, _, _, _, _, rfl, by kernel_rfl⟩⟩
  bd := fun q _ _ _ _ _ _ us h => match us, h with | [_, _], _ => rfl
  c := by decide +kernel
  nm := by kernel_rfl
  ef := by kernel_rfl
  hfd := by decide +kernel
  hfc := by decide +kernel
  hx := by kernel_rfl
  hs := by kernel_rfl
  hf := by kernel_rfl
theorem oInvalidSubject : XIok D xInvalidSubject where
  S := ⟨by kernel_rfl, by kernel_rfl, by kernel_rfl, by decide +kernel, by kernel_rfl, by decide +kernel, by decide +kernel⟩
  B := ⟨⟨_, _, _, _, _, _, _, _, _, _, _, _, rfl, by kernel_rfl⟩⟩
  bd := fun q _ _ _ _ _ _ us h => match us, h with | [_, _], _ => rfl
  c := by decide +kernel
  nm := by kernel_rfl
  ef := by kernel_rfl
  hfd := by decide +kernel
  hfc := by decide +kernel
  hx := by kernel_rfl
  hs := by kernel_rfl
  hf := by kernel_rfl
theorem oInvalidText : XIok D xInvalidText where
  S := ⟨by kernel_rfl, by kernel_rfl, by kernel_rfl, by decide +kernel, by kernel_rfl, by decide +kernel, by decide +kernel⟩
  B := ⟨⟨_, _, _, _, _, _, _, _, _, _, _, _, rfl, by kernel_rfl⟩⟩
  bd := fun q _ _ _ _ _ _ us h => match us, h with | [_, _], _ => rfl
  c := by decide +kernel
  nm := by kernel_rfl
  ef := by kernel_rfl
  hfd := by decide +kernel
  hfc := by decide +kernel
  hx := by kernel_rfl
  hs := by kernel_rfl
  hf := by kernel_rfl
theorem lookB (a : Str) (b : Str) (β : Type) (v : β) (r : List (Str × β)) : ((b, v) :: r).lookup a = if a = b then some v else r.lookup a := by
  by_cases h : a = b
  · subst h; simp [List.lookup]
  · have : (a == b) = false := by simpa using h
    simp [List.lookup, this, h]
def fnB (D : LD) : Bool := D.L.fn.all fun p => match D.ds[p.2]? with | some d => decide (d.name = p.1) | none => false
def xcB (D : LD) : Bool := D.L.xc.all fun p => D.xs.any fun i => decide (i.c = p.2.1) && (decide (i.x = p.1) && decide (i.f = p.2.2))
def clB (D : LD) : Bool := D.L.cl.all fun p => D.cls.any (eqCl p.2) && (match p.2 with | .own i => decide (i < D.cs.length) && decide (D.cs.getD i Str.empty = p.1) | .ty n => decide (bootBuiltins p.1 = some (.type n)))
theorem mem_look {β : Type} {a : Str} {v : β} : ∀ {l : List (Str × β)}, l.lookup a = some v → (a, v) ∈ l
  | [], h => by cases h
  | (b, u) :: r, h => by
    rw [lookB] at h
    split at h
    · rename_i e; cases h; subst e; exact List.mem_cons_self
    · exact List.mem_cons_of_mem _ (mem_look h)
theorem fnB_ok {D : LD} (h : fnB D = true) (x f) (e : D.L.fn.lookup x = some f) : ∃ d, D.ds[f]? = some d ∧ d.name = x := by
  have h := List.all_eq_true.mp h _ (mem_look e)
  dsimp only at h
  split at h
  · rename_i d hd; exact ⟨d, hd, of_decide_eq_true h⟩
  · cases h
theorem xcB_ok {D : LD} (h : xcB D = true) (x c f) (e : D.L.xc.lookup x = some (c, f)) : ∃ i ∈ D.xs, i.c = c ∧ i.x = x ∧ i.f = f := by
  have h := List.all_eq_true.mp h _ (mem_look e)
  obtain ⟨i, hi, h⟩ := List.any_eq_true.mp h
  obtain ⟨h1, h⟩ := and2 h
  obtain ⟨h2, h3⟩ := and2 h
  exact ⟨i, hi, of_decide_eq_true h1, of_decide_eq_true h2, of_decide_eq_true h3⟩
theorem clB_ok {D : LD} (h : clB D = true) : ∀ (x : Str) (c : Cl), D.L.cl.lookup x = some c → c ∈ D.cls ∧ (match c with | .own i => i < D.cs.length ∧ D.cs.getD i Str.empty = x | .ty n => bootBuiltins x = some (.type n)) := by
  intro x c e
  have h := List.all_eq_true.mp h _ (mem_look e)
  obtain ⟨h1, h2⟩ := and2 h
  refine ⟨mem_cl h1, ?_⟩
  cases c with
  | own i => obtain ⟨a, b⟩ := and2 h2; exact ⟨of_decide_eq_true a, of_decide_eq_true b⟩
  | ty n => exact of_decide_eq_true h2
theorem ldok : LDok D where
  ds := fun d hd => by
    simp only [D, List.mem_cons, List.mem_nil_iff, or_false] at hd
    rcases hd with rfl | rfl | rfl | rfl | rfl | rfl | rfl | rfl | rfl | rfl | rfl | rfl | rfl | rfl | rfl | rfl | rfl | rfl | rfl
    · exact o_law_pile
    · exact o_law_mixed
    · exact o_law_take
    · exact o_law_tags
    · exact o_law_word
    · exact o_law_written
    · exact o_law_bent
    · exact ois_tag
    · exact ochecked_word
    · exact oword_text
    · exact ois_name
    · exact oplaces_of
    · exact osubject_text
    · exact otags_of
    · exact oread_subject
    · exact o_law_told
    · exact o_law_text_due
    · exact o_law_subject_due
    · exact olaw
  xs := fun d hd => by
    simp only [D, List.mem_cons, List.mem_nil_iff, or_false] at hd
    rcases hd with rfl | rfl | rfl
    · exact oInvalidTags
    · exact oInvalidSubject
    · exact oInvalidText
  fn := fnB_ok (D := D) (by decide +kernel)
  xc := xcB_ok (D := D) (by decide +kernel)
  cl := clB_ok (D := D) (by decide +kernel)
  hd := by decide +kernel
  lt := by decide +kernel
abbrev hD (d : DI) : He.DefD := ⟨(d.name, none), d.name, d.name, defArgs d.st, defBody d.st, defScope d.st, [], []⟩
abbrev hX (x : XI) (q : Str) : He.DefD := ⟨(x.x, some "__init__"), "__init__", q, defArgs x.st, defBody x.st, defScope x.st, [], []⟩
def hfn : List He.DefD := [hD d_law_pile, hD d_law_mixed, hD d_law_take, hD d_law_tags, hD d_law_word, hD d_law_written, hD d_law_bent, hD dis_tag, hD dchecked_word, hD dword_text, hD dis_name, hD dplaces_of, hD dsubject_text, hD dtags_of, hD dread_subject, hD d_law_told, hD d_law_text_due, hD d_law_subject_due, hD dlaw, hX xInvalidTags "InvalidTags.__init__", hX xInvalidSubject "InvalidSubject.__init__", hX xInvalidText "InvalidText.__init__"]
def hfa : List He.Fa := [.glo "TagError", .glo "InvalidTags", .glo "InvalidSubject", .glo "InvalidEater", .glo "InvalidText", .glo "_law_pile", .glo "_law_mixed", .glo "_law_take", .glo "_law_tags", .glo "_law_word", .glo "_law_written", .glo "_law_bent", .glo "is_tag", .glo "checked_word", .glo "word_text", .glo "is_name", .glo "places_of", .glo "subject_text", .glo "tags_of", .glo "read_subject", .glo "_law_told", .glo "_law_text_due", .glo "_law_subject_due", .glo "law", .free "ValueError", .free "abs", .free "all", .free "enumerate", .free "int", .free "isinstance", .free "len", .free "list", .free "range", .free "str", .free "tuple", .str "LETTERS" "abcdefghijklmnopqrstuvwxyz", .int "LONGEST_NAME" (8), .int "LONGEST_SUBJECT" (200), .int "MOST_TAGS" (6)]
def loose : List PySem.Str := (["__name__", "TagError", "InvalidTags", "InvalidSubject", "InvalidEater", "InvalidText", "LETTERS", "LONGEST_NAME", "MOST_TAGS", "LONGEST_SUBJECT", "is_name", "places_of", "is_tag", "checked_word", "word_text", "tags_of", "subject_text", "read_subject", "_law_mixed", "_law_pile", "_law_take", "_law_order", "_law_tags", "_law_word", "_law_standings", "_law_eaten", "_law_row_done", "_law_told", "_law_written", "_law_subject_due", "_law_text_due", "_law_bent"] : List PySem.Str)
abbrev R : PySem.W.OpenRow := PySem.W.OpenLaw.row PySem.Challenge.rw_subjecttags_k60_subjects_as_text
abbrev hk : PySem.W.Hook := hookM 6 hfa hfn D.ex
def ob (s : PySem.W.SharedT) : He.AlD × Bool := obsM 6 hfa hfn D.ex (HandSHeadRun.getT s)
theorem ob_eq (s : PySem.W.SharedT) : ob s = hk.obs s.abs := obsM_eq (HandSHeadRun.getT_eq s)
theorem run (w : World) : HandSHeadRun.RunEq R (PySem.W.view R.prog [35]) hk ob 3000 loose w := by
  intro os
  kernel_rfl
theorem mgok {K : PySem.W.Frag} {h : Heap} {mg : Str → Option Value} (KI : K.In h) (G : h.Ns mainGlobals mg) (c : He.SaysD hfa hfn K) : MgOk D K mg where
  cs := fun i hi => by
    have hi : i < 5 := hi
    match i, hi with
    | 0, _ => exact He.glo_ok KI G (c.fact 0 (f := .glo "TagError") rfl)
    | 1, _ => exact He.glo_ok KI G (c.fact 1 (f := .glo "InvalidTags") rfl)
    | 2, _ => exact He.glo_ok KI G (c.fact 2 (f := .glo "InvalidSubject") rfl)
    | 3, _ => exact He.glo_ok KI G (c.fact 3 (f := .glo "InvalidEater") rfl)
    | 4, _ => exact He.glo_ok KI G (c.fact 4 (f := .glo "InvalidText") rfl)
    | n + 5, h => exact absurd h (by omega)
  ds := fun d hd => by
    simp only [D, List.mem_cons, List.mem_nil_iff, or_false] at hd
    rcases hd with rfl | rfl | rfl | rfl | rfl | rfl | rfl | rfl | rfl | rfl | rfl | rfl | rfl | rfl | rfl | rfl | rfl | rfl | rfl
    · obtain ⟨fd, F⟩ := c.def_ 0 (d := hD d_law_pile) rfl; exact ⟨_, fd, He.glo_ok KI G (c.fact 5 (f := .glo "_law_pile") rfl), F.kp, fun_of F⟩
    · obtain ⟨fd, F⟩ := c.def_ 1 (d := hD d_law_mixed) rfl; exact ⟨_, fd, He.glo_ok KI G (c.fact 6 (f := .glo "_law_mixed") rfl), F.kp, fun_of F⟩
    · obtain ⟨fd, F⟩ := c.def_ 2 (d := hD d_law_take) rfl; exact ⟨_, fd, He.glo_ok KI G (c.fact 7 (f := .glo "_law_take") rfl), F.kp, fun_of F⟩
    · obtain ⟨fd, F⟩ := c.def_ 3 (d := hD d_law_tags) rfl; exact ⟨_, fd, He.glo_ok KI G (c.fact 8 (f := .glo "_law_tags") rfl), F.kp, fun_of F⟩
    · obtain ⟨fd, F⟩ := c.def_ 4 (d := hD d_law_word) rfl; exact ⟨_, fd, He.glo_ok KI G (c.fact 9 (f := .glo "_law_word") rfl), F.kp, fun_of F⟩
    · obtain ⟨fd, F⟩ := c.def_ 5 (d := hD d_law_written) rfl; exact ⟨_, fd, He.glo_ok KI G (c.fact 10 (f := .glo "_law_written") rfl), F.kp, fun_of F⟩
    · obtain ⟨fd, F⟩ := c.def_ 6 (d := hD d_law_bent) rfl; exact ⟨_, fd, He.glo_ok KI G (c.fact 11 (f := .glo "_law_bent") rfl), F.kp, fun_of F⟩
    · obtain ⟨fd, F⟩ := c.def_ 7 (d := hD dis_tag) rfl; exact ⟨_, fd, He.glo_ok KI G (c.fact 12 (f := .glo "is_tag") rfl), F.kp, fun_of F⟩
    · obtain ⟨fd, F⟩ := c.def_ 8 (d := hD dchecked_word) rfl; exact ⟨_, fd, He.glo_ok KI G (c.fact 13 (f := .glo "checked_word") rfl), F.kp, fun_of F⟩
    · obtain ⟨fd, F⟩ := c.def_ 9 (d := hD dword_text) rfl; exact ⟨_, fd, He.glo_ok KI G (c.fact 14 (f := .glo "word_text") rfl), F.kp, fun_of F⟩
    · obtain ⟨fd, F⟩ := c.def_ 10 (d := hD dis_name) rfl; exact ⟨_, fd, He.glo_ok KI G (c.fact 15 (f := .glo "is_name") rfl), F.kp, fun_of F⟩
    · obtain ⟨fd, F⟩ := c.def_ 11 (d := hD dplaces_of) rfl; exact ⟨_, fd, He.glo_ok KI G (c.fact 16 (f := .glo "places_of") rfl), F.kp, fun_of F⟩
    · obtain ⟨fd, F⟩ := c.def_ 12 (d := hD dsubject_text) rfl; exact ⟨_, fd, He.glo_ok KI G (c.fact 17 (f := .glo "subject_text") rfl), F.kp, fun_of F⟩
    · obtain ⟨fd, F⟩ := c.def_ 13 (d := hD dtags_of) rfl; exact ⟨_, fd, He.glo_ok KI G (c.fact 18 (f := .glo "tags_of") rfl), F.kp, fun_of F⟩
    · obtain ⟨fd, F⟩ := c.def_ 14 (d := hD dread_subject) rfl; exact ⟨_, fd, He.glo_ok KI G (c.fact 19 (f := .glo "read_subject") rfl), F.kp, fun_of F⟩
    · obtain ⟨fd, F⟩ := c.def_ 15 (d := hD d_law_told) rfl; exact ⟨_, fd, He.glo_ok KI G (c.fact 20 (f := .glo "_law_told") rfl), F.kp, fun_of F⟩
    · obtain ⟨fd, F⟩ := c.def_ 16 (d := hD d_law_text_due) rfl; exact ⟨_, fd, He.glo_ok KI G (c.fact 21 (f := .glo "_law_text_due") rfl), F.kp, fun_of F⟩
    · obtain ⟨fd, F⟩ := c.def_ 17 (d := hD d_law_subject_due) rfl; exact ⟨_, fd, He.glo_ok KI G (c.fact 22 (f := .glo "_law_subject_due") rfl), F.kp, fun_of F⟩
    · obtain ⟨fd, F⟩ := c.def_ 18 (d := hD dlaw) rfl; exact ⟨_, fd, He.glo_ok KI G (c.fact 23 (f := .glo "law") rfl), F.kp, fun_of F⟩
  xs := fun d hd => by
    simp only [D, List.mem_cons, List.mem_nil_iff, or_false] at hd
    rcases hd with rfl | rfl | rfl
    · obtain ⟨fd, F⟩ := c.def_ 19 (d := hX xInvalidTags "InvalidTags.__init__") rfl; exact ⟨_, fd, fun_of F⟩
    · obtain ⟨fd, F⟩ := c.def_ 20 (d := hX xInvalidSubject "InvalidSubject.__init__") rfl; exact ⟨_, fd, fun_of F⟩
    · obtain ⟨fd, F⟩ := c.def_ 21 (d := hX xInvalidText "InvalidText.__init__") rfl; exact ⟨_, fd, fun_of F⟩
  ty := fun x n hx => by
    have hx := mem_look hx
    simp only [D, ls, List.mem_cons, List.mem_nil_iff, or_false, Prod.mk.injEq, reduceCtorEq, and_false, false_or] at hx
    rcases hx with ⟨rfl, _⟩ | ⟨rfl, _⟩ | ⟨rfl, _⟩
    · exact He.free_ok KI G (c.fact 24 (f := .free "ValueError") rfl)
    · exact He.free_ok KI G (c.fact 31 (f := .free "list") rfl)
    · exact He.free_ok KI G (c.fact 33 (f := .free "str") rfl)
  con := fun x v hx => by
    have hx := mem_look hx
    simp only [D, ls, List.mem_cons, List.mem_nil_iff, or_false, Prod.mk.injEq] at hx
    rcases hx with ⟨rfl, rfl⟩ | ⟨rfl, rfl⟩ | ⟨rfl, rfl⟩ | ⟨rfl, rfl⟩
    · obtain ⟨t, e⟩ := He.str_ok KI G (c.fact 35 (f := .str "LETTERS" "abcdefghijklmnopqrstuvwxyz") rfl); exact ⟨_, .str "abcdefghijklmnopqrstuvwxyz", e, ⟨t, rfl⟩, fun _ _ => .str _⟩
    · obtain ⟨t, e⟩ := He.int_ok KI G (c.fact 36 (f := .int "LONGEST_NAME" (8)) rfl); exact ⟨_, .int (8), e, ⟨t, rfl⟩, fun _ _ => .int _⟩
    · obtain ⟨t, e⟩ := He.int_ok KI G (c.fact 37 (f := .int "LONGEST_SUBJECT" (200)) rfl); exact ⟨_, .int (200), e, ⟨t, rfl⟩, fun _ _ => .int _⟩
    · obtain ⟨t, e⟩ := He.int_ok KI G (c.fact 38 (f := .int "MOST_TAGS" (6)) rfl); exact ⟨_, .int (6), e, ⟨t, rfl⟩, fun _ _ => .int _⟩
  free := fun x hx => by
    simp only [D, ls, List.mem_cons, List.mem_nil_iff, or_false] at hx
    rcases hx with rfl | rfl | rfl | rfl | rfl | rfl | rfl | rfl | rfl
    · exact He.free_ok KI G (c.fact 25 (f := .free "abs") rfl)
    · exact He.free_ok KI G (c.fact 26 (f := .free "all") rfl)
    · exact He.free_ok KI G (c.fact 27 (f := .free "enumerate") rfl)
    · exact He.free_ok KI G (c.fact 28 (f := .free "int") rfl)
    · exact He.free_ok KI G (c.fact 29 (f := .free "isinstance") rfl)
    · exact He.free_ok KI G (c.fact 30 (f := .free "len") rfl)
    · exact He.free_ok KI G (c.fact 32 (f := .free "range") rfl)
    · exact He.free_ok KI G (c.fact 33 (f := .free "str") rfl)
    · exact He.free_ok KI G (c.fact 34 (f := .free "tuple") rfl)
end K60
namespace K60
open PySem PySem.W PySem.Calls PyProof.Rows MP
theorem end_ (pure_ : ∀ ns : List Int, ns.length ≤ 63 → ∃ dep, dep ≤ 200 ∧ wpC (D.G ns) D.tbl dep D.law [.scr] (fun _ => none) (fun v _ => v = .bool true) (fun _ _ => False)) : PySem.Challenge.rw_subjecttags_k60_subjects_as_text.Holds := by
  w_on; o_law
  refine HandSHeadRun.head_any (r := PySem.W.OpenLaw.row PySem.Challenge.rw_subjecttags_k60_subjects_as_text) (q := PySem.W.view (PySem.W.OpenLaw.row PySem.Challenge.rw_subjecttags_k60_subjects_as_text).prog [35]) (H := hk) (ob := ob) (M := 3000) (loose := loose) (d := HandSHeadRun.topDef (PySem.W.OpenLaw.row PySem.Challenge.rw_subjecttags_k60_subjects_as_text).prog 35) (kwd := []) ob_eq
    (by kernel_rfl) (fun s => by kernel_rfl) run (by kernel_rfl) (by kernel_rfl) (by kernel_rfl) (by rfl) (by first | assumption | decide +kernel) (by decide +kernel) ⟨rfl, rfl, rfl, rfl, rfl, by decide +kernel⟩ ?hw ?hc
  case hw => w_witness2
  case hc => exact walk_mp (l := PySem.Challenge.rw_subjecttags_k60_subjects_as_text) (n := 63) rfl (by decide) (by kernel_rfl) ldok (by kernel_rfl) mgok pure_
end K60
namespace K60
open PySem MP
section
variable {G : Glo} {d : Nat} {M : Mem} {Q : VK} {X : XK}
theorem mixed_ok {m c : Int} (hm : 0 ≤ m) (hm2 : m < 2147483647) (hc : 0 ≤ c) (hc2 : c < 10 ^ 9) (h : ∀ r : Int, 0 ≤ r → Q (.int r) M) : wpC G tbl (d + 1) 1 [.int m, .int c] M Q X := by
  refine wpC_some rfl rfl ?_
  simp (disch := omega) only [f_law_mixed, b_law_mixed_0, b_law_mixed_1, b_law_mixed_2, wpSs, wpS, wpE, wpEs, wpG, wpGs, wpI, startS, List.map, List.append, List.replicate, gets, sets, wipes, List.cons_append, List.nil_append, Nat.sub, Nat.reduceSub, List.length, s_int, s_intb, s_abs, s_mod, s_mul, s_add, s_sub, s_fdiv, s_pow, s_eqi, s_lt, s_le, s_gt, s_ge, s_atr, s_atc, s_ats, atR_l, atN_0, atN_1, atN_2, tb_bool, s_set, setL_0, setL_2, mup_same, s_lenr, s_lenc, s_addr, s_rng, Int.reduceToNat, Int.reducePow, Int.reduceMul, Int.reduceAdd, Int.reduceMod, part, semEach, lenT]
  exact h _ (by omega)
theorem take_ok {p : Addr} {t : Nat} {n : Int} (hp : Pile M p t) (ht : t < 10 ^ 6) (h1 : 1 ≤ n) (h2 : n ≤ 1000) (h : ∀ r M', 0 ≤ r → r < n → Fz p M' = Fz p M → Pile M' p (t + 1) → Q (.int r) M') : wpC G tbl (d + 2) 2 [.ref p, .int n] M Q X := by
  obtain ⟨g, m, c, e, g1, g2, m1, m2, c1, c2⟩ := hp
  refine wpC_some rfl rfl ?_
  simp (disch := omega) only [f_law_take, b_law_take_0, e, wpSs, wpS, wpE, wpEs, wpG, wpGs, wpI, startS, List.map, List.append, List.replicate, gets, sets, wipes, List.cons_append, List.nil_append, Nat.sub, Nat.reduceSub, List.length, s_int, s_intb, s_abs, s_mod, s_mul, s_add, s_sub, s_fdiv, s_pow, s_eqi, s_lt, s_le, s_gt, s_ge, s_atr, s_atc, s_ats, atR_l, atN_0, atN_1, atN_2, tb_bool, s_set, setL_0, setL_2, mup_same, s_lenr, s_lenc, s_addr, s_rng, Int.reduceToNat, Int.reducePow, Int.reduceMul, Int.reduceAdd, Int.reduceMod, part, semEach, lenT]
  refine tb_dec (fun hg => ?_) (fun hg => ?_)
  · simp (disch := omega) only [b_law_take_1, b_law_take_2, e, wpSs, wpS, wpE, wpEs, wpG, wpGs, wpI, startS, List.map, List.append, List.replicate, gets, sets, wipes, List.cons_append, List.nil_append, Nat.sub, Nat.reduceSub, List.length, s_int, s_intb, s_abs, s_mod, s_mul, s_add, s_sub, s_fdiv, s_pow, s_eqi, s_lt, s_le, s_gt, s_ge, s_atr, s_atc, s_ats, atR_l, atN_0, atN_1, atN_2, tb_bool, s_set, setL_0, setL_2, mup_same, s_lenr, s_lenc, s_addr, s_rng, Int.reduceToNat, Int.reducePow, Int.reduceMul, Int.reduceAdd, Int.reduceMod, part, semEach, lenT]
    refine mixed_ok m1 m2 (by omega) (by omega) fun r hr => ?_
    simp (disch := omega) only [s_mod]
    exact h _ _ (Int.emod_nonneg _ (by omega)) (Int.emod_lt_of_pos _ (by omega)) fz_set ⟨_, _, _, mup_same, g1, g2, m1, m2, by omega, by omega⟩
  · simp (disch := omega) only [b_law_take_3, b_law_take_4, b_law_take_5, e, wpSs, wpS, wpE, wpEs, wpG, wpGs, wpI, startS, List.map, List.append, List.replicate, gets, sets, wipes, List.cons_append, List.nil_append, Nat.sub, Nat.reduceSub, List.length, s_int, s_intb, s_abs, s_mod, s_mul, s_add, s_sub, s_fdiv, s_pow, s_eqi, s_lt, s_le, s_gt, s_ge, s_atr, s_atc, s_ats, atR_l, atN_0, atN_1, atN_2, tb_bool, s_set, setL_0, setL_2, mup_same, s_lenr, s_lenc, s_addr, s_rng, Int.reduceToNat, Int.reducePow, Int.reduceMul, Int.reduceAdd, Int.reduceMod, part, semEach, lenT]
    refine h _ _ (Int.emod_nonneg _ (by omega)) (Int.emod_lt_of_pos _ (by omega)) fz_set ⟨_, _, _, mup_same, Int.ediv_nonneg g1 (by omega), ?_, m1, m2, by omega, by omega⟩
    have := Int.ediv_le_self n g1
    omega
theorem pile_end {cell k : Int} (hk : 0 ≤ k) (hk2 : k ≤ 1000) (h : ∀ p M', M p = none → Ext M M' → Pile M' p (97 * k).toNat → Q (.ref p) M') : wpSs G (wpC G tbl d) b_law_pile_3 ⟨fun _ M' => Q .none M', Q, fun _ _ => False, fun _ _ => False, fun e _ M' => X e M'⟩ [some .scr, some (.int k), some (.int cell), none] M := by
  have hb : ∀ b : Bool, 0 ≤ cell % 10 ^ 150 * (if b then 1 else 0) ∧ cell % 10 ^ 150 * (if b then 1 else 0) < 10 ^ 150 := by intro b; cases b <;> simp <;> omega
  simp (disch := omega) only [b_law_pile_3, b_law_pile_4, s_mulb, wpSs, wpS, wpE, wpEs, wpG, wpGs, wpI, startS, List.map, List.append, List.replicate, gets, sets, wipes, List.cons_append, List.nil_append, Nat.sub, Nat.reduceSub, List.length, s_int, s_intb, s_abs, s_mod, s_mul, s_add, s_sub, s_fdiv, s_pow, s_eqi, s_lt, s_le, s_gt, s_ge, s_atr, s_atc, s_ats, atR_l, atN_0, atN_1, atN_2, tb_bool, s_set, setL_0, setL_2, mup_same, s_lenr, s_lenc, s_addr, s_rng, Int.reduceToNat, Int.reducePow, Int.reduceMul, Int.reduceAdd, Int.reduceMod, part, semEach, lenT]
  refine ⟨by decide, fun p hp => ?_⟩
  exact h p _ hp (ext_new hp) ⟨_, _, _, mup_same, (hb _).1, (hb _).2, by omega, by omega, by omega, by omega⟩
theorem pile_ok {k : Int} (hk : 0 ≤ k) (hk2 : k ≤ 1000) (h : ∀ p M', M p = none → Ext M M' → Pile M' p (97 * k).toNat → Q (.ref p) M') : wpC G tbl (d + 1) 0 [.scr, .int k] M Q X := by
  refine wpC_some rfl rfl ?_
  simp (disch := omega) only [f_law_pile, b_law_pile_0, b_law_pile_1, wpSs, wpS, wpE, wpEs, wpG, wpGs, wpI, startS, List.map, List.append, List.replicate, gets, sets, wipes, List.cons_append, List.nil_append, Nat.sub, Nat.reduceSub, List.length, s_int, s_intb, s_abs, s_mod, s_mul, s_add, s_sub, s_fdiv, s_pow, s_eqi, s_lt, s_le, s_gt, s_ge, s_atr, s_atc, s_ats, atR_l, atN_0, atN_1, atN_2, tb_bool, s_set, setL_0, setL_2, mup_same, s_lenr, s_lenc, s_addr, s_rng, Int.reduceToNat, Int.reducePow, Int.reduceMul, Int.reduceAdd, Int.reduceMod, part, semEach, lenT]
  refine tb_dec (fun hg => ?_) (fun hg => ?_)
  · simp (disch := omega) only [b_law_pile_2, wpSs, wpS, wpE, wpEs, wpG, wpGs, wpI, startS, List.map, List.append, List.replicate, gets, sets, wipes, List.cons_append, List.nil_append, Nat.sub, Nat.reduceSub, List.length, s_int, s_intb, s_abs, s_mod, s_mul, s_add, s_sub, s_fdiv, s_pow, s_eqi, s_lt, s_le, s_gt, s_ge, s_atr, s_atc, s_ats, atR_l, atN_0, atN_1, atN_2, tb_bool, s_set, setL_0, setL_2, mup_same, s_lenr, s_lenc, s_addr, s_rng, Int.reduceToNat, Int.reducePow, Int.reduceMul, Int.reduceAdd, Int.reduceMod, part, semEach, lenT]
    obtain ⟨v, hv⟩ : ∃ v, G.scr[k.toNat]? = some v := ⟨_, List.getElem?_eq_getElem (by omega)⟩
    refine atN_ok hk hv ?_
    exact pile_end hk hk2 h
  · exact pile_end hk hk2 h
abbrev abc : Str := "abcdefghijklmnopqrstuvwxyz"
abbrev plainW : List Str := ["re", "fwd", "list", "aw", "r", "ext", "re", "fwd", "list", "aw", "r"]
theorem plain_good : ∀ at_ : Fin 6, ∀ many : Fin 7, 1 ≤ many.val → goodB (cutL plainW (some (at_.val : Int)) (some ((at_.val : Int) + (many.val : Int)))) = true := by decide +kernel
theorem plain_len : ∀ at_ : Fin 6, ∀ many : Fin 7, (cutL plainW (some (at_.val : Int)) (some ((at_.val : Int) + (many.val : Int)))).length = many.val := by decide +kernel
theorem abc_get {r : Int} (h0 : 0 ≤ r) (h1 : r < 26) : abc.cps.toList[r.toNat]? = some (97 + r.toNat) := by
  have : ∀ i : Fin 26, abc.cps.toList[i.val]? = some (97 + i.val) := by decide +kernel
  exact this ⟨r.toNat, by omega⟩
abbrev paces : List Int := [1, 3, 5, 7, 9, 11, 15, 17, 19, 21, 23, 25]
theorem pace_ok : ∀ p : Fin 12, ∀ s : Fin 26, ∀ j k : Fin 6, j ≠ k → ((s.val : Int) + paces[p.val] * (j.val : Int)) % 26 ≠ ((s.val : Int) + paces[p.val] * (k.val : Int)) % 26 := by decide +kernel
def nameK (stem : Str) (at_ sh pc : Int) (k : Nat) : Str := L2.cutS stem none (some at_) ++ ⟨#[97 + ((sh + pc * (k : Int)) % 26).toNat]⟩ ++ L2.cutS stem (some at_) none
theorem cps_nameK {stem : Str} {at_ sh pc : Int} {k : Nat} : (nameK stem at_ sh pc k).cps.toList = (L2.cutS stem none (some at_)).cps.toList ++ (97 + ((sh + pc * (k : Int)) % 26).toNat) :: (L2.cutS stem (some at_) none).cps.toList := by
  unfold nameK
  simp [str_app]
theorem names_good {stem : Str} {at_ sh : Int} {pc : Fin 12} {many : Nat} (hs : lowS stem = true) (hl : stem.length ≤ 7) (ha : 0 ≤ at_) (ha2 : at_ ≤ stem.length) (h0 : 0 ≤ sh) (h1 : sh < 26) (hm : 1 ≤ many) (hm2 : many ≤ 6) : GoodTags ((List.range many).map (nameK stem at_ sh paces[pc.val])) := by
  have hx : HT.sIx stem.length stem.length (some at_) = at_.toNat ∧ HT.sIx stem.length 0 (some at_) = at_.toNat := by
    have e : at_ = ((at_.toNat : Nat) : Int) := by omega
    rw [e, HT.sIx_nat, HT.sIx_nat]
    omega
  have c1 : (L2.cutS stem none (some at_)).cps.toList = stem.cps.toList.take at_.toNat := by
    unfold L2.cutS
    rw [hx.1, HT.sIx_none]
    simp
  have c2 : (L2.cutS stem (some at_) none).cps.toList = stem.cps.toList.drop at_.toNat := by
    unfold L2.cutS
    rw [hx.2, HT.sIx_none]
    have : stem.cps.toList.length = stem.length := by simp [Str.length]
    simp only [List.take_of_length_le, List.length_drop, this, Nat.le_refl]
  have len : ∀ k, (nameK stem at_ sh paces[pc.val] k).length = stem.length + 1 := fun k => by
    have : (nameK stem at_ sh paces[pc.val] k).length = (nameK stem at_ sh paces[pc.val] k).cps.toList.length := by simp [Str.length]
    rw [this, cps_nameK, c1, c2]
    have : stem.cps.toList.length = stem.length := by simp [Str.length]
    simp only [List.length_append, List.length_take, List.length_cons, List.length_drop, this]
    omega
  refine ⟨?_, fun t ht => ?_, by simpa using hm, by simpa using hm2⟩
  · refine List.pairwise_map.mpr (List.Pairwise.imp_of_mem (fun {j k} hj hk hne e => hne ?_) List.nodup_range)
    rw [List.mem_range] at hj hk
    have e := congrArg (fun s : Str => s.cps.toList) e
    rw [cps_nameK, cps_nameK] at e
    have e := List.append_cancel_left e
    have e := (List.cons.inj e).1
    by_cases hjk : j = k
    · exact hjk
    · have : (((sh.toNat : Nat) : Int) + paces[pc.val] * (j : Int)) % 26 ≠ (((sh.toNat : Nat) : Int) + paces[pc.val] * (k : Int)) % 26 := pace_ok pc ⟨sh.toNat, by omega⟩ ⟨j, by omega⟩ ⟨k, by omega⟩ (fun z => hjk (by simpa using z))
      rw [show ((sh.toNat : Nat) : Int) = sh by omega] at this
      omega
  · obtain ⟨k, hk, rfl⟩ := List.mem_map.mp ht
    refine ⟨by rw [len]; omega, by rw [len]; omega, ?_⟩
    have b := Int.emod_nonneg (sh + paces[pc.val] * (k : Int)) (by decide : (26 : Int) ≠ 0)
    have b2 := Int.emod_lt_of_pos (sh + paces[pc.val] * (k : Int)) (by decide : (0 : Int) < 26)
    have hs' : stem.cps.toList.all (fun c => decide (97 ≤ c) && decide (c ≤ 122)) = true := hs
    unfold lowS
    rw [cps_nameK, c1, c2, List.all_append, List.all_cons]
    have h1 : (stem.cps.toList.take at_.toNat).all (fun c => decide (97 ≤ c) && decide (c ≤ 122)) = true := List.all_eq_true.mpr fun x hx => List.all_eq_true.mp hs' x (List.mem_of_mem_take hx)
    have h2 : (stem.cps.toList.drop at_.toNat).all (fun c => decide (97 ≤ c) && decide (c ≤ 122)) = true := List.all_eq_true.mpr fun x hx => List.all_eq_true.mp hs' x (List.mem_of_mem_drop hx)
    rw [h1, h2, Bool.true_and, Bool.and_true, Bool.and_eq_true_iff]
    exact ⟨decide_eq_true (by omega), decide_eq_true (by omega)⟩
theorem tags_rest {p : Addr} {t : Nat} {many : Int} {stem : Str} (hp : Pile M p t) (ht : t < 2 * 10 ^ 5) (h1 : 1 ≤ many) (h2 : many ≤ 6) (hs : lowS stem = true) (hl : stem.length ≤ 7)
    (h : ∀ a ts M', Ext (Fz p M) (Fz p M') → Pile M' p (t + 3) → Fz p M' a = some (.lst (ts.map Val.str)) → GoodTags ts → (ts.length : Int) = many → Q (.ref a) M') :
    wpSs G (wpC G tbl (d + 2)) b_law_tags_6 ⟨fun _ M' => Q .none M', Q, fun _ _ => False, fun _ _ => False, fun e _ M' => X e M'⟩ [some (.ref p), some (.int many), some (.str abc), some (.str stem), none, none, none, none, none] M := by
  have hl2 : stem.length ≤ 16777216 := by omega
  simp (disch := omega) only [b_law_tags_6, s_lens, wpSs, wpS, wpE, wpEs, wpG, wpGs, wpI, startS, List.map, List.append, List.replicate, gets, sets, wipes, List.cons_append, List.nil_append, Nat.sub, Nat.reduceSub, List.length, s_int, s_intb, s_abs, s_mod, s_mul, s_add, s_sub, s_fdiv, s_pow, s_eqi, s_lt, s_le, s_gt, s_ge, s_atr, s_atc, s_ats, atR_l, atN_0, atN_1, atN_2, tb_bool, s_set, setL_0, setL_2, mup_same, s_lenr, s_lenc, s_addr, s_rng, Int.reduceToNat, Int.reducePow, Int.reduceMul, Int.reduceAdd, Int.reduceMod, part, semEach, lenT]
  refine take_ok hp (by omega) (by omega) (by omega) fun at_ M1 a1 a2 hF1 hp1 => ?_
  simp (disch := omega) only [b_law_tags_7, wpSs, wpS, wpE, wpEs, wpG, wpGs, wpI, startS, List.map, List.append, List.replicate, gets, sets, wipes, List.cons_append, List.nil_append, Nat.sub, Nat.reduceSub, List.length, s_int, s_intb, s_abs, s_mod, s_mul, s_add, s_sub, s_fdiv, s_pow, s_eqi, s_lt, s_le, s_gt, s_ge, s_atr, s_atc, s_ats, atR_l, atN_0, atN_1, atN_2, tb_bool, s_set, setL_0, setL_2, mup_same, s_lenr, s_lenc, s_addr, s_rng, Int.reduceToNat, Int.reducePow, Int.reduceMul, Int.reduceAdd, Int.reduceMod, part, semEach, lenT]
  refine take_ok hp1 (by omega) (by omega) (by omega) fun sh M2 s1 s2 hF2 hp2 => ?_
  simp (disch := omega) only [b_law_tags_8, wpSs, wpS, wpE, wpEs, wpG, wpGs, wpI, startS, List.map, List.append, List.replicate, gets, sets, wipes, List.cons_append, List.nil_append, Nat.sub, Nat.reduceSub, List.length, s_int, s_intb, s_abs, s_mod, s_mul, s_add, s_sub, s_fdiv, s_pow, s_eqi, s_lt, s_le, s_gt, s_ge, s_atr, s_atc, s_ats, atR_l, atN_0, atN_1, atN_2, tb_bool, s_set, setL_0, setL_2, mup_same, s_lenr, s_lenc, s_addr, s_rng, Int.reduceToNat, Int.reducePow, Int.reduceMul, Int.reduceAdd, Int.reduceMod, part, semEach, lenT]
  refine ⟨by decide, fun q hq => ?_⟩
  refine take_ok (hp2.ext (ext_new hq)) (by omega) (by omega) (by omega) fun pi M3 p1 p2 hF3 hp3 => ?_
  obtain ⟨o, ho⟩ := hp2.at
  have hq3 : Fz p M3 q = some (.lst (paces.map Val.int)) := by rw [hF3]; exact fz_new ho hq
  simp only [s_atr, atR_l, fz_at hq3]
  obtain ⟨pc, hpc⟩ : ∃ pc : Fin 12, pc.val = pi.toNat := ⟨⟨pi.toNat, by omega⟩, rfl⟩
  have hpi : paces[pi.toNat]? = some paces[pc.val] := by rw [← hpc]; exact List.getElem?_eq_getElem _
  have hpb : ∀ pc : Fin 12, 1 ≤ paces[pc.val] ∧ paces[pc.val] ≤ 25 := by decide +kernel
  obtain ⟨b1, b2⟩ := hpb pc
  refine atN_ok p1 (by rw [List.getElem?_map, hpi]; rfl) ?_
  simp (disch := omega) only [b_law_tags_9, wpSs, wpS, wpE, wpEs, wpG, wpGs, wpI, startS, List.map, List.append, List.replicate, gets, sets, wipes, List.cons_append, List.nil_append, Nat.sub, Nat.reduceSub, List.length, s_int, s_intb, s_abs, s_mod, s_mul, s_add, s_sub, s_fdiv, s_pow, s_eqi, s_lt, s_le, s_gt, s_ge, s_atr, s_atc, s_ats, atR_l, atN_0, atN_1, atN_2, tb_bool, s_set, setL_0, setL_2, mup_same, s_lenr, s_lenc, s_addr, s_rng, Int.reduceToNat, Int.reducePow, Int.reduceMul, Int.reduceAdd, Int.reduceMod, part, semEach, lenT]
  refine comp_idx (fun i acc M' => acc = ((List.range i).map (nameK stem at_ sh paces[pc.val])).map Val.str ∧ M' = M3 ∧ i ≤ many.toNat) ⟨rfl, rfl, Nat.zero_le _⟩ (fun _ _ _ _ => trivial) (fun i x acc M' k hx ⟨e, em, hi⟩ hk => ?_) (fun acc M' ⟨e, em, hi⟩ => ?_)
  · obtain ⟨hi2, rfl⟩ := rng_get hx
    subst em
    generalize hg : paces[pc.val] = g at *
    have e0 : (0 : Int) + (i : Int) = (i : Int) := by omega
    have hm := Int.emod_nonneg (sh + g * (i : Int)) (by decide : (26 : Int) ≠ 0)
    have hm2 := Int.emod_lt_of_pos (sh + g * (i : Int)) (by decide : (0 : Int) < 26)
    have l26 : abc.length ≤ 16777216 := by decide
    simp (disch := first | exact l26 | omega) only [s_slice, e0, wpSs, wpS, wpE, wpEs, wpG, wpGs, wpI, startS, List.map, List.append, List.replicate, gets, sets, wipes, List.cons_append, List.nil_append, Nat.sub, Nat.reduceSub, List.length, s_int, s_intb, s_abs, s_mod, s_mul, s_add, s_sub, s_fdiv, s_pow, s_eqi, s_lt, s_le, s_gt, s_ge, s_atr, s_atc, s_ats, atR_l, atN_0, atN_1, atN_2, tb_bool, s_set, setL_0, setL_2, mup_same, s_lenr, s_lenc, s_addr, s_rng, Int.reduceToNat, Int.reducePow, Int.reduceMul, Int.reduceAdd, Int.reduceMod, part, semEach, lenT]
    refine atN_ok hm (abc_get hm hm2) ?_
    have c1 : (L2.cutS stem none (some at_)).length ≤ stem.length := cutS_le
    have c2 : (L2.cutS stem (some at_) none).length ≤ stem.length := cutS_le
    have c3 : (⟨#[97 + ((sh + g * (i : Int)) % 26).toNat]⟩ : Str).length = 1 := rfl
    rw [s_adds (by omega), s_adds (by rw [app_len]; omega)]
    refine ⟨by rw [e]; simp only [List.length_map, List.length_range]; show _ < 2 ^ 24; omega, ?_⟩
    refine hk _ _ ⟨?_, rfl, by omega⟩
    rw [e, List.range_succ, List.map_append, List.map_append]
    rfl
  · subst e em
    intro b hb
    rw [rng_len] at hi ⊢
    obtain ⟨o3, ho3⟩ := hp3.at
    refine h b _ _ ?_ (hp3.ext (ext_new hb)) (by rw [fz_new ho3 hb]) (names_good (pc := pc) hs hl a1 (by omega) s1 s2 (by omega) (by omega)) (by simp only [List.length_map, List.length_range]; omega)
    exact (ext_eq hF1).trans ((ext_eq hF2).trans ((fz_mono (ext_new hq)).trans ((ext_eq hF3).trans (fz_mono (ext_new hb)))))
theorem tags_ok {p : Addr} {t : Nat} {many : Int} (hp : Pile M p t) (ht : t < 10 ^ 5) (h1 : 1 ≤ many) (h2 : many ≤ 6)
    (h : ∀ a ts M', Ext (Fz p M) (Fz p M') → Pile M' p (t + 20) → Fz p M' a = some (.lst (ts.map Val.str)) → GoodTags ts → (ts.length : Int) = many → Q (.ref a) M') : wpC G tbl (d + 3) 3 [.ref p, .int many] M Q X := by
  refine wpC_some rfl rfl ?_
  simp (disch := omega) only [f_law_tags, b_law_tags_0, b_law_tags_1, wpSs, wpS, wpE, wpEs, wpG, wpGs, wpI, startS, List.map, List.append, List.replicate, gets, sets, wipes, List.cons_append, List.nil_append, Nat.sub, Nat.reduceSub, List.length, s_int, s_intb, s_abs, s_mod, s_mul, s_add, s_sub, s_fdiv, s_pow, s_eqi, s_lt, s_le, s_gt, s_ge, s_atr, s_atc, s_ats, atR_l, atN_0, atN_1, atN_2, tb_bool, s_set, setL_0, setL_2, mup_same, s_lenr, s_lenc, s_addr, s_rng, Int.reduceToNat, Int.reducePow, Int.reduceMul, Int.reduceAdd, Int.reduceMod, part, semEach, lenT]
  refine take_ok hp (by omega) (by omega) (by omega) fun r M1 r1 r2 hF hp1 => ?_
  simp (disch := omega) only [wpSs, wpS, wpE, wpEs, wpG, wpGs, wpI, startS, List.map, List.append, List.replicate, gets, sets, wipes, List.cons_append, List.nil_append, Nat.sub, Nat.reduceSub, List.length, s_int, s_intb, s_abs, s_mod, s_mul, s_add, s_sub, s_fdiv, s_pow, s_eqi, s_lt, s_le, s_gt, s_ge, s_atr, s_atc, s_ats, atR_l, atN_0, atN_1, atN_2, tb_bool, s_set, setL_0, setL_2, mup_same, s_lenr, s_lenc, s_addr, s_rng, Int.reduceToNat, Int.reducePow, Int.reduceMul, Int.reduceAdd, Int.reduceMod, part, semEach, lenT]
  refine tb_dec (fun hg => ?_) (fun hg => ?_)
  · simp (disch := omega) only [b_law_tags_2, b_law_tags_3, b_law_tags_4, wpSs, wpS, wpE, wpEs, wpG, wpGs, wpI, startS, List.map, List.append, List.replicate, gets, sets, wipes, List.cons_append, List.nil_append, Nat.sub, Nat.reduceSub, List.length, s_int, s_intb, s_abs, s_mod, s_mul, s_add, s_sub, s_fdiv, s_pow, s_eqi, s_lt, s_le, s_gt, s_ge, s_atr, s_atc, s_ats, atR_l, atN_0, atN_1, atN_2, tb_bool, s_set, setL_0, setL_2, mup_same, s_lenr, s_lenc, s_addr, s_rng, Int.reduceToNat, Int.reducePow, Int.reduceMul, Int.reduceAdd, Int.reduceMod, part, semEach, lenT]
    refine ⟨by decide, fun q hq => ?_⟩
    refine take_ok (hp1.ext (ext_new hq)) (by omega) (by omega) (by omega) fun r M2 r1 r2 hF2 hp2 => ?_
    obtain ⟨o, ho⟩ := hp1.at
    have hq2 : Fz p M2 q = some (.lst (plainW.map Val.str)) := by rw [hF2]; exact fz_new ho hq
    simp (disch := omega) only [semSlice, fz_at hq2, wpSs, wpS, wpE, wpEs, wpG, wpGs, wpI, startS, List.map, List.append, List.replicate, gets, sets, wipes, List.cons_append, List.nil_append, Nat.sub, Nat.reduceSub, List.length, s_int, s_intb, s_abs, s_mod, s_mul, s_add, s_sub, s_fdiv, s_pow, s_eqi, s_lt, s_le, s_gt, s_ge, s_atr, s_atc, s_ats, atR_l, atN_0, atN_1, atN_2, tb_bool, s_set, setL_0, setL_2, mup_same, s_lenr, s_lenc, s_addr, s_rng, Int.reduceToNat, Int.reducePow, Int.reduceMul, Int.reduceAdd, Int.reduceMod, part, semEach, lenT]
    intro b hb
    have e : cutL (plainW.map Val.str) (some r) (some (r + many)) = (cutL plainW (some r) (some (r + many))).map Val.str := cutL_map _ _ _ _
    obtain ⟨o2, ho2⟩ := hp2.at
    have g1 := plain_good ⟨r.toNat, by omega⟩ ⟨many.toNat, by omega⟩ (by show 1 ≤ many.toNat; omega)
    have g2 := plain_len ⟨r.toNat, by omega⟩ ⟨many.toNat, by omega⟩
    dsimp only at g1 g2
    rw [show ((r.toNat : Nat) : Int) = r by omega, show ((many.toNat : Nat) : Int) = many by omega] at g1 g2
    refine h b _ _ ?_ ((hp2.ext (ext_new hb)).mono (by omega)) (by rw [fz_new ho2 hb]; exact congrArg (fun z => some (MO.lst z)) e) (goodB_ok g1) (by rw [g2]; omega)
    exact (ext_eq hF).trans ((fz_mono (ext_new hq)).trans ((ext_eq hF2).trans (fz_mono (ext_new hb))))
  · simp (disch := omega) only [b_law_tags_5, wpSs, wpS, wpE, wpEs, wpG, wpGs, wpI, startS, List.map, List.append, List.replicate, gets, sets, wipes, List.cons_append, List.nil_append, Nat.sub, Nat.reduceSub, List.length, s_int, s_intb, s_abs, s_mod, s_mul, s_add, s_sub, s_fdiv, s_pow, s_eqi, s_lt, s_le, s_gt, s_ge, s_atr, s_atc, s_ats, atR_l, atN_0, atN_1, atN_2, tb_bool, s_set, setL_0, setL_2, mup_same, s_lenr, s_lenc, s_addr, s_rng, Int.reduceToNat, Int.reducePow, Int.reduceMul, Int.reduceAdd, Int.reduceMod, part, semEach, lenT]
    refine ⟨trivial, ?_⟩
    refine take_ok hp1 (by omega) (by omega) (by omega) fun r M2 r1 r2 hF2 hp2 => ?_
    simp (disch := omega) only [wpSs, wpS, wpE, wpEs, wpG, wpGs, wpI, startS, List.map, List.append, List.replicate, gets, sets, wipes, List.cons_append, List.nil_append, Nat.sub, Nat.reduceSub, List.length, s_int, s_intb, s_abs, s_mod, s_mul, s_add, s_sub, s_fdiv, s_pow, s_eqi, s_lt, s_le, s_gt, s_ge, s_atr, s_atc, s_ats, atR_l, atN_0, atN_1, atN_2, tb_bool, s_set, setL_0, setL_2, mup_same, s_lenr, s_lenc, s_addr, s_rng, Int.reduceToNat, Int.reducePow, Int.reduceMul, Int.reduceAdd, Int.reduceMod, part, semEach, lenT]
    have t0 : ∀ cs : List Nat, cs.length ≤ 7 → (cs.all fun c => decide (97 ≤ c) && decide (c ≤ 122)) = true → lowS (Txt.join "" (cs.map one)) = true ∧ (Txt.join "" (cs.map one)).length ≤ 7 := fun cs hl ha => by
      refine ⟨by unfold lowS; rw [join_one]; exact ha, ?_⟩
      have : (Txt.join "" (cs.map one)).length = (Txt.join "" (cs.map one)).cps.toList.length := by simp [Str.length]
      rw [this, join_one]
      exact hl
    refine comp_idx (fun i acc M' => ∃ cs : List Nat, acc = (cs.map one).map Val.str ∧ cs.length = i ∧ i ≤ r.toNat ∧ (cs.all fun c => decide (97 ≤ c) && decide (c ≤ 122)) = true ∧ Fz p M' = Fz p M2 ∧ Pile M' p (t + 2 + i)) ⟨[], rfl, rfl, Nat.zero_le _, rfl, rfl, hp2⟩ (fun _ _ _ _ => trivial) (fun i x acc M3 k hx ⟨cs, e, hl, hi, ha, hF3, hp3⟩ hk => ?_) (fun acc M3 ⟨cs, e, hl, hi, ha, hF3, hp3⟩ => ?_)
    · obtain ⟨hi2, rfl⟩ := rng_get hx
      refine take_ok hp3 (by omega) (by omega) (by omega) fun r4 M4 q1 q2 hF4 hp4 => ?_
      have l26 : abc.length ≤ 16777216 := by decide
      simp (disch := first | exact l26 | omega) only [wpSs, wpS, wpE, wpEs, wpG, wpGs, wpI, startS, List.map, List.append, List.replicate, gets, sets, wipes, List.cons_append, List.nil_append, Nat.sub, Nat.reduceSub, List.length, s_int, s_intb, s_abs, s_mod, s_mul, s_add, s_sub, s_fdiv, s_pow, s_eqi, s_lt, s_le, s_gt, s_ge, s_atr, s_atc, s_ats, atR_l, atN_0, atN_1, atN_2, tb_bool, s_set, setL_0, setL_2, mup_same, s_lenr, s_lenc, s_addr, s_rng, Int.reduceToNat, Int.reducePow, Int.reduceMul, Int.reduceAdd, Int.reduceMod, part, semEach, lenT]
      refine atN_ok q1 (abc_get q1 q2) ⟨by rw [e]; simp only [List.length_map]; show _ < 2 ^ 24; omega, ?_⟩
      refine hk _ _ ⟨cs ++ [97 + r4.toNat], by rw [e, List.map_append, List.map_append]; rfl, by simp [hl], by omega, ?_, hF4.trans hF3, hp4⟩
      rw [List.all_append, ha, Bool.true_and]
      simp only [List.all_cons, List.all_nil, Bool.and_true, Bool.and_eq_true_iff]
      exact ⟨decide_eq_true (by omega), decide_eq_true (by omega)⟩
    · rw [rng_len] at hl hi
      subst e
      intro q hq
      obtain ⟨o, ho⟩ := hp3.at
      simp only [semM, mup_same, textsOf_map]
      refine ⟨by rw [one_len]; simp only [List.length_map]; show cs.length + cs.length * 0 ≤ _; omega, ?_⟩
      obtain ⟨u1, u2⟩ := t0 cs (by omega) ha
      refine tags_rest (d := d) (hp3.ext (ext_new hq)) (by omega) h1 h2 u1 u2 fun a ts M' x hp' ha' hg hl' => ?_
      exact h a ts M' (((ext_eq hF).trans ((ext_eq hF2).trans ((ext_eq hF3).trans (fz_mono (ext_new hq))))).trans x) (hp'.mono (by omega)) ha' hg hl'
/-- a list of drawn tags -/
theorem word_ok {p a : Addr} {t : Nat} {ts : List Str} {most : Int} (hp : Pile M p t) (ht : t < 10 ^ 5) (ha : Fz p M a = some (.lst (ts.map Val.str))) (hts : GoodTags ts) (h1 : 0 ≤ most) (h2 : most ≤ 100)
    (h : ∀ (b : Addr) (ws : List Str) (M' : Mem), Ext (Fz p M) (Fz p M') → Pile M' p (t + 200) → M b = none → Fz p M' b = some (.lst (ws.map Val.str)) → (∀ w ∈ ws, w ∈ ts) → (ws.length : Int) ≤ most → Q (.ref b) M') : wpC G tbl (d + 3) 4 [.ref p, .ref a, .int most] M Q X := by
  have hne := hts.ne
  have hle := hts.le
  have keep : ∀ {M' : Mem}, Fz p M' = Fz p M → M' a = some (.lst (ts.map Val.str)) := fun e => fz_at (by rw [e]; exact ha)
  refine wpC_some rfl rfl ?_
  simp (disch := omega) only [f_law_word, b_law_word_0, wpSs, wpS, wpE, wpEs, wpG, wpGs, wpI, startS, List.map, List.append, List.replicate, gets, sets, wipes, List.cons_append, List.nil_append, Nat.sub, Nat.reduceSub, List.length, s_int, s_intb, s_abs, s_mod, s_mul, s_add, s_sub, s_fdiv, s_pow, s_eqi, s_lt, s_le, s_gt, s_ge, s_atr, s_atc, s_ats, atR_l, atN_0, atN_1, atN_2, tb_bool, s_set, setL_0, setL_2, mup_same, s_lenr, s_lenc, s_addr, s_rng, Int.reduceToNat, Int.reducePow, Int.reduceMul, Int.reduceAdd, Int.reduceMod, part, semEach, lenT]
  refine take_ok hp (by omega) (by omega) (by omega) fun r M1 r1 r2 hF1 hp1 => ?_
  simp (disch := omega) only [wpSs, wpS, wpE, wpEs, wpG, wpGs, wpI, startS, List.map, List.append, List.replicate, gets, sets, wipes, List.cons_append, List.nil_append, Nat.sub, Nat.reduceSub, List.length, s_int, s_intb, s_abs, s_mod, s_mul, s_add, s_sub, s_fdiv, s_pow, s_eqi, s_lt, s_le, s_gt, s_ge, s_atr, s_atc, s_ats, atR_l, atN_0, atN_1, atN_2, tb_bool, s_set, setL_0, setL_2, mup_same, s_lenr, s_lenc, s_addr, s_rng, Int.reduceToNat, Int.reducePow, Int.reduceMul, Int.reduceAdd, Int.reduceMod, part, semEach, lenT]
  refine comp_idx (fun i acc M' => ∃ ws : List Str, acc = ws.map Val.str ∧ ws.length = i ∧ i ≤ r.toNat ∧ (∀ w ∈ ws, w ∈ ts) ∧ Fz p M' = Fz p M ∧ Pile M' p (t + 1 + i)) ⟨[], rfl, rfl, Nat.zero_le _, (fun w hw => by cases hw), hF1, hp1⟩ (fun _ _ _ _ => trivial) (fun i x acc M3 k hx ⟨ws, e, hl, hi, hw, hF3, hp3⟩ hk => ?_) (fun acc M3 ⟨ws, e, hl, hi, hw, hF3, hp3⟩ => ?_)
  · obtain ⟨hi2, rfl⟩ := rng_get hx
    simp only [keep hF3, List.length_map]
    refine take_ok hp3 (by omega) (by omega) (by omega) fun r4 M4 q1 q2 hF4 hp4 => ?_
    simp only [s_atr, atR_l, keep (hF4.trans hF3)]
    obtain ⟨w, hw4⟩ : ∃ w, ts[r4.toNat]? = some w := ⟨_, List.getElem?_eq_getElem (by omega)⟩
    refine atN_ok q1 (by rw [List.getElem?_map, hw4]; rfl) ⟨by rw [e]; simp only [List.length_map]; show _ < 2 ^ 24; omega, ?_⟩
    refine hk _ _ ⟨ws ++ [w], by rw [e, List.map_append]; rfl, by simp [hl], by omega, fun z hz => ?_, hF4.trans hF3, hp4⟩
    rcases List.mem_append.mp hz with z1 | z1
    · exact hw z z1
    · rw [List.mem_singleton.mp z1]; exact List.mem_of_getElem? hw4
  · rw [rng_len] at hl hi
    subst e
    intro b hb
    obtain ⟨o3, ho3⟩ := hp3.at
    refine h b ws _ ((ext_eq hF3).trans (fz_mono (ext_new hb))) ((hp3.ext (ext_new hb)).mono (by omega)) ?_ (fz_new ho3 hb) hw (by omega)
    cases e : M b with
    | none => rfl
    | some u =>
      exfalso
      by_cases hbp : b = p
      · rw [hbp, ho3] at hb; cases hb
      · have : Fz p M3 b = some u := by rw [hF3]; unfold Fz; rw [if_neg hbp]; exact e
        rw [fz_at this] at hb
        cases hb
end
end K60
namespace K60
open PySem MP
section
variable {ns : List Int} {d : Nat} {M : Mem} {Q : VK} {X : XK}
theorem is_name_ok {v : Val} {dd : PyData} (h : Dm M v dd) (hl : ∀ s, dd = .str s → s.length ≤ 100000) (hq : ∀ M', Ext M M' → Q (.bool (nameD dd)) M') : wpC (G0 ns) tbl (d + 1) nis_name [v] M Q X := by
  refine wpC_some (fn := fis_name) rfl rfl ?_
  simp (disch := omega) only [fis_name, bis_name_0, isCl_one, isB_str h, s_not, wpSs, wpS, wpE, wpEs, wpG, wpGs, wpI, startS, List.map, List.append, List.replicate, gets, sets, wipes, List.cons_append, List.nil_append, Nat.sub, Nat.reduceSub, List.length, s_int, s_intb, s_abs, s_mod, s_mul, s_add, s_sub, s_fdiv, s_pow, s_eqi, s_lt, s_le, s_gt, s_ge, s_atr, s_atc, s_ats, atR_l, atN_0, atN_1, atN_2, tb_bool, s_set, setL_0, setL_2, mup_same, s_lenr, s_lenc, s_addr, s_rng, Int.reduceToNat, Int.reducePow, Int.reduceMul, Int.reduceAdd, Int.reduceMod, part, semEach, lenT]
  cases h with
  | str s =>
    have hl := hl s rfl
    simp (disch := omega) only [isStrD, Bool.not_true, s_lens, s_not, wpSs, wpS, wpE, wpEs, wpG, wpGs, wpI, startS, List.map, List.append, List.replicate, gets, sets, wipes, List.cons_append, List.nil_append, Nat.sub, Nat.reduceSub, List.length, s_int, s_intb, s_abs, s_mod, s_mul, s_add, s_sub, s_fdiv, s_pow, s_eqi, s_lt, s_le, s_gt, s_ge, s_atr, s_atc, s_ats, atR_l, atN_0, atN_1, atN_2, tb_bool, s_set, setL_0, setL_2, mup_same, s_lenr, s_lenc, s_addr, s_rng, Int.reduceToNat, Int.reducePow, Int.reduceMul, Int.reduceAdd, Int.reduceMod, part, semEach, lenT]
    by_cases h1 : 1 ≤ s.length
    · by_cases h2 : s.length ≤ 8
      · have e1 : decide ((1 : Int) ≤ (s.length : Int)) = true := decide_eq_true (by omega)
        have e2 : decide ((s.length : Int) ≤ 8) = true := decide_eq_true (by omega)
        simp (disch := omega) only [e1, e2, Bool.not_true, s_not, bis_name_2, wpSs, wpS, wpE, wpEs, wpG, wpGs, wpI, startS, List.map, List.append, List.replicate, gets, sets, wipes, List.cons_append, List.nil_append, Nat.sub, Nat.reduceSub, List.length, s_int, s_intb, s_abs, s_mod, s_mul, s_add, s_sub, s_fdiv, s_pow, s_eqi, s_lt, s_le, s_gt, s_ge, s_atr, s_atc, s_ats, atR_l, atN_0, atN_1, atN_2, tb_bool, s_set, setL_0, setL_2, mup_same, s_lenr, s_lenc, s_addr, s_rng, Int.reduceToNat, Int.reducePow, Int.reduceMul, Int.reduceAdd, Int.reduceMod, part, semEach, lenT]
        refine comp_idx (fun i acc M' => acc = ((s.cps.toList.take i).map okCh).map Val.bool ∧ M' = M) ⟨rfl, rfl⟩ (fun _ _ _ _ => trivial) (fun i x acc M' k hx ⟨e, em⟩ hk => ?_) (fun acc M' ⟨e, em⟩ => ?_)
        · rw [List.getElem?_map] at hx
          cases hc : s.cps.toList[i]? with
          | none => rw [hc] at hx; cases hx
          | some c =>
            rw [hc] at hx
            cases hx
            have hi : i < s.cps.toList.length := (List.getElem?_eq_some_iff.mp hc).1
            rw [← str_len] at hi
            simp only [s_ins, wpSs, wpS, wpE, wpEs, wpG, wpGs, wpI, startS, List.map, List.append, List.replicate, gets, sets, wipes, List.cons_append, List.nil_append, Nat.sub, Nat.reduceSub, List.length, s_int, s_intb, s_abs, s_mod, s_mul, s_add, s_sub, s_fdiv, s_pow, s_eqi, s_lt, s_le, s_gt, s_ge, s_atr, s_atc, s_ats, atR_l, atN_0, atN_1, atN_2, tb_bool, s_set, setL_0, setL_2, mup_same, s_lenr, s_lenc, s_addr, s_rng, Int.reduceToNat, Int.reducePow, Int.reduceMul, Int.reduceAdd, Int.reduceMod, part, semEach, lenT]
            refine ⟨by rw [e]; simp only [List.length_map, List.length_take]; show _ < 2 ^ 24; omega, hk _ _ ⟨?_, em⟩⟩
            rw [e, List.take_add_one, hc, List.map_append, List.map_append]
            rfl
        · subst em
          intro q hq'
          simp only [s_allr, mup_same, e, boolsOf_map]
          rw [List.length_map, List.take_length]
          have : ((s.cps.toList.map okCh).all id) = nameD (.str s) := by
            show _ = nameS s
            unfold nameS
            rw [decide_eq_true h1, decide_eq_true h2, Bool.true_and, Bool.true_and, List.all_map]
            rfl
          rw [this]
          exact hq _ (ext_new hq')
      · have e1 : decide ((1 : Int) ≤ (s.length : Int)) = true := decide_eq_true (by omega)
        have e2 : decide ((s.length : Int) ≤ 8) = false := decide_eq_false (by omega)
        simp (disch := omega) only [e1, e2, Bool.not_false, s_not, bis_name_1, wpSs, wpS, wpE, wpEs, wpG, wpGs, wpI, startS, List.map, List.append, List.replicate, gets, sets, wipes, List.cons_append, List.nil_append, Nat.sub, Nat.reduceSub, List.length, s_int, s_intb, s_abs, s_mod, s_mul, s_add, s_sub, s_fdiv, s_pow, s_eqi, s_lt, s_le, s_gt, s_ge, s_atr, s_atc, s_ats, atR_l, atN_0, atN_1, atN_2, tb_bool, s_set, setL_0, setL_2, mup_same, s_lenr, s_lenc, s_addr, s_rng, Int.reduceToNat, Int.reducePow, Int.reduceMul, Int.reduceAdd, Int.reduceMod, part, semEach, lenT]
        have : nameD (.str s) = false := by show nameS s = false; unfold nameS; rw [decide_eq_false h2]; simp
        rw [← this]
        exact hq _ Ext.refl
    · have e1 : decide ((1 : Int) ≤ (s.length : Int)) = false := decide_eq_false (by omega)
      simp (disch := omega) only [e1, Bool.not_false, s_not, bis_name_1, wpSs, wpS, wpE, wpEs, wpG, wpGs, wpI, startS, List.map, List.append, List.replicate, gets, sets, wipes, List.cons_append, List.nil_append, Nat.sub, Nat.reduceSub, List.length, s_int, s_intb, s_abs, s_mod, s_mul, s_add, s_sub, s_fdiv, s_pow, s_eqi, s_lt, s_le, s_gt, s_ge, s_atr, s_atc, s_ats, atR_l, atN_0, atN_1, atN_2, tb_bool, s_set, setL_0, setL_2, mup_same, s_lenr, s_lenc, s_addr, s_rng, Int.reduceToNat, Int.reducePow, Int.reduceMul, Int.reduceAdd, Int.reduceMod, part, semEach, lenT]
      have : nameD (.str s) = false := by show nameS s = false; unfold nameS; rw [decide_eq_false h1]; simp
      rw [← this]
      exact hq _ Ext.refl
  | _ => simp only [isStrD, Bool.not_false, bis_name_1, wpSs, wpS, wpE, wpEs, wpG, wpGs, wpI, startS, List.map, List.append, List.replicate, gets, sets, wipes, List.cons_append, List.nil_append, Nat.sub, Nat.reduceSub, List.length, s_int, s_intb, s_abs, s_mod, s_mul, s_add, s_sub, s_fdiv, s_pow, s_eqi, s_lt, s_le, s_gt, s_ge, s_atr, s_atc, s_ats, atR_l, atN_0, atN_1, atN_2, tb_bool, s_set, setL_0, setL_2, mup_same, s_lenr, s_lenc, s_addr, s_rng, Int.reduceToNat, Int.reducePow, Int.reduceMul, Int.reduceAdd, Int.reduceMod, part, semEach, lenT]; exact hq _ Ext.refl
theorem is_tag_ok {q : Addr} {v : Val} {dd : PyData} {ts : List Str} (h : Dm M v dd) (hm : M q = some (.dct (dOf 0 ts))) (hq : Q (.bool (match dd with | .str s => decide (s ∈ ts) | _ => false)) M) : wpC (G0 ns) tbl (d + 1) nis_tag [.ref q, v] M Q X := by
  refine wpC_some (fn := fis_tag) rfl rfl ?_
  simp (disch := omega) only [fis_tag, bis_tag_0, isCl_one, isB_str h, wpSs, wpS, wpE, wpEs, wpG, wpGs, wpI, startS, List.map, List.append, List.replicate, gets, sets, wipes, List.cons_append, List.nil_append, Nat.sub, Nat.reduceSub, List.length, s_int, s_intb, s_abs, s_mod, s_mul, s_add, s_sub, s_fdiv, s_pow, s_eqi, s_lt, s_le, s_gt, s_ge, s_atr, s_atc, s_ats, atR_l, atN_0, atN_1, atN_2, tb_bool, s_set, setL_0, setL_2, mup_same, s_lenr, s_lenc, s_addr, s_rng, Int.reduceToNat, Int.reducePow, Int.reduceMul, Int.reduceAdd, Int.reduceMod, part, semEach, lenT]
  cases h with
  | str s =>
    simp only [isStrD]
    refine s_ind hm ?_
    rw [lookK_dOf]
    exact hq
  | _ => simp only [isStrD]; exact hq
/-- places_of: what it tells -/
theorem places_ok {v : Val} {td : PyData} (h : Dm M v td) (hs : ∀ s ds, td = .list ds → PyData.str s ∈ ds → s.length ≤ 100000)
    (hq : ∀ q ts M', Ext M M' → M q = none → M' q = some (.dct (dOf 0 ts)) → td = .list (ts.map PyData.str) → tagsErr td = none → Q (.ref q) M')
    (hx : ∀ e M', Ext M M' → tagsErr td = some e → X ⟨1, [("index", e)]⟩ M') : wpC (G0 ns) tbl (d + 2) nplaces_of [v] M Q X := by
  refine wpC_some (fn := fplaces_of) rfl rfl ?_
  simp (disch := omega) only [fplaces_of, bplaces_of_0, isCl_one, isB_list h, s_not, wpSs, wpS, wpE, wpEs, wpG, wpGs, wpI, startS, List.map, List.append, List.replicate, gets, sets, wipes, List.cons_append, List.nil_append, Nat.sub, Nat.reduceSub, List.length, s_int, s_intb, s_abs, s_mod, s_mul, s_add, s_sub, s_fdiv, s_pow, s_eqi, s_lt, s_le, s_gt, s_ge, s_atr, s_atc, s_ats, atR_l, atN_0, atN_1, atN_2, tb_bool, s_set, setL_0, setL_2, mup_same, s_lenr, s_lenc, s_addr, s_rng, Int.reduceToNat, Int.reducePow, Int.reduceMul, Int.reduceAdd, Int.reduceMod, part, semEach, lenT]
  cases h with
  | lst ha hds =>
    rename_i a xs ds
    have hl := dmAll_len hds
    simp (disch := omega) only [isListD, Bool.not_true, s_not, ha, wpSs, wpS, wpE, wpEs, wpG, wpGs, wpI, startS, List.map, List.append, List.replicate, gets, sets, wipes, List.cons_append, List.nil_append, Nat.sub, Nat.reduceSub, List.length, s_int, s_intb, s_abs, s_mod, s_mul, s_add, s_sub, s_fdiv, s_pow, s_eqi, s_lt, s_le, s_gt, s_ge, s_atr, s_atc, s_ats, atR_l, atN_0, atN_1, atN_2, tb_bool, s_set, setL_0, setL_2, mup_same, s_lenr, s_lenc, s_addr, s_rng, Int.reduceToNat, Int.reducePow, Int.reduceMul, Int.reduceAdd, Int.reduceMod, part, semEach, lenT]
    by_cases h1 : 1 ≤ ds.length
    · by_cases h2 : ds.length ≤ 6
      · have e1 : decide ((1 : Int) ≤ (xs.length : Int)) = true := decide_eq_true (by omega)
        have e2 : decide ((xs.length : Int) ≤ 6) = true := decide_eq_true (by omega)
        have et : tagsErr (.list ds) = (badD [] ds 0).map (fun (i : Nat) => Val.int (i : Int)) := tagsErr_in h1 h2
        simp (disch := omega) only [e1, e2, Bool.not_true, s_not, bplaces_of_2, bplaces_of_3, wpSs, wpS, wpE, wpEs, wpG, wpGs, wpI, startS, List.map, List.append, List.replicate, gets, sets, wipes, List.cons_append, List.nil_append, Nat.sub, Nat.reduceSub, List.length, s_int, s_intb, s_abs, s_mod, s_mul, s_add, s_sub, s_fdiv, s_pow, s_eqi, s_lt, s_le, s_gt, s_ge, s_atr, s_atc, s_ats, atR_l, atN_0, atN_1, atN_2, tb_bool, s_set, setL_0, setL_2, mup_same, s_lenr, s_lenc, s_addr, s_rng, Int.reduceToNat, Int.reducePow, Int.reduceMul, Int.reduceAdd, Int.reduceMod, part, semEach, lenT]
        intro q hq0
        have ha1 := ext_new (o := MO.dct []) hq0 _ _ ha
        simp only [semEnum, ha1]
        refine for_idx (fun i σ M' => ∃ ss : List Str, ds.take i = ss.map PyData.str ∧ ss.length = i ∧ i ≤ ds.length ∧ badD [] ds 0 = badD ss (ds.drop i) i ∧ (∃ o1 o2, σ = [some (.ref a), some (.ref q), o1, o2]) ∧ Ext M M' ∧ M' q = some (.dct (dOf 0 ss)))
          ⟨[], rfl, rfl, Nat.zero_le _, rfl, ⟨_, _, rfl⟩, ext_new hq0, mup_same⟩ (fun i σ M' ⟨ss, _, _, _, _, _, x, _⟩ => x _ _ ha) (fun i x σ M' k hx' hI hk => ?_) (fun σ M' hI => ?_)
        · obtain ⟨ss, t1, t2, t3, t4, ⟨o1, o2, rfl⟩, x1, t5⟩ := hI
          obtain ⟨y, hy, rfl⟩ := enum_get hx'
          obtain ⟨dy, hdy, hdm⟩ := dmAll_get hds hy
          have hi : i < ds.length := (List.getElem?_eq_some_iff.mp hdy).1
          have hdrop : ds.drop i = dy :: ds.drop (i + 1) := by
            rw [List.drop_eq_getElem_cons hi]
            rw [List.getElem?_eq_getElem hi] at hdy
            cases hdy
            rfl
          have htake : ds.take (i + 1) = ds.take i ++ [dy] := by rw [List.take_add_one, hdy]; rfl
          rw [hdrop] at t4
          refine ⟨rfl, ?_⟩
          simp (disch := omega) only [bplaces_of_4, wpSs, wpS, wpE, wpEs, wpG, wpGs, wpI, startS, List.map, List.append, List.replicate, gets, sets, wipes, List.cons_append, List.nil_append, Nat.sub, Nat.reduceSub, List.length, s_int, s_intb, s_abs, s_mod, s_mul, s_add, s_sub, s_fdiv, s_pow, s_eqi, s_lt, s_le, s_gt, s_ge, s_atr, s_atc, s_ats, atR_l, atN_0, atN_1, atN_2, tb_bool, s_set, setL_0, setL_2, mup_same, s_lenr, s_lenc, s_addr, s_rng, Int.reduceToNat, Int.reducePow, Int.reduceMul, Int.reduceAdd, Int.reduceMod, part, semEach, lenT]
          refine is_name_ok (hdm.mono x1) (fun s e => hs s ds rfl (by rw [← e]; exact List.mem_of_getElem? hdy)) fun M2 x2 => ?_
          have t6 := x2 _ _ t5
          simp only [s_not, wpSs, wpS, wpE, wpEs, wpG, wpGs, wpI, startS, List.map, List.append, List.replicate, gets, sets, wipes, List.cons_append, List.nil_append, Nat.sub, Nat.reduceSub, List.length, s_int, s_intb, s_abs, s_mod, s_mul, s_add, s_sub, s_fdiv, s_pow, s_eqi, s_lt, s_le, s_gt, s_ge, s_atr, s_atc, s_ats, atR_l, atN_0, atN_1, atN_2, tb_bool, s_set, setL_0, setL_2, mup_same, s_lenr, s_lenc, s_addr, s_rng, Int.reduceToNat, Int.reducePow, Int.reduceMul, Int.reduceAdd, Int.reduceMod, part, semEach, lenT]
          by_cases hn : nameD dy = true
          · simp only [hn, Bool.not_true]
            cases hdm with
            | str s =>
              have hn : nameS s = true := hn
              refine s_ind t6 ?_
              rw [lookK_dOf]
              by_cases hm : s ∈ ss
              · simp only [hm, decide_true, bplaces_of_5, wpSs, wpS, wpE, wpEs, wpG, wpGs, wpI, startS, List.map, List.append, List.replicate, gets, sets, wipes, List.cons_append, List.nil_append, Nat.sub, Nat.reduceSub, List.length, s_int, s_intb, s_abs, s_mod, s_mul, s_add, s_sub, s_fdiv, s_pow, s_eqi, s_lt, s_le, s_gt, s_ge, s_atr, s_atc, s_ats, atR_l, atN_0, atN_1, atN_2, tb_bool, s_set, setL_0, setL_2, mup_same, s_lenr, s_lenc, s_addr, s_rng, Int.reduceToNat, Int.reducePow, Int.reduceMul, Int.reduceAdd, Int.reduceMod, part, semEach, lenT]
                refine ⟨rfl, ?_⟩
                refine hx (.int i) M2 (x1.trans x2) ?_
                rw [et, t4]
                simp only [badD, hm, not_true_eq_false, and_false, if_false]
                rfl
              · simp only [hm, decide_false, bplaces_of_6, t6, wpSs, wpS, wpE, wpEs, wpG, wpGs, wpI, startS, List.map, List.append, List.replicate, gets, sets, wipes, List.cons_append, List.nil_append, Nat.sub, Nat.reduceSub, List.length, s_int, s_intb, s_abs, s_mod, s_mul, s_add, s_sub, s_fdiv, s_pow, s_eqi, s_lt, s_le, s_gt, s_ge, s_atr, s_atc, s_ats, atR_l, atN_0, atN_1, atN_2, tb_bool, s_set, setL_0, setL_2, mup_same, s_lenr, s_lenc, s_addr, s_rng, Int.reduceToNat, Int.reducePow, Int.reduceMul, Int.reduceAdd, Int.reduceMod, part, semEach, lenT]
                refine ⟨rfl, ?_, ?_⟩
                · rw [dOf_len]; show _ < 2 ^ 24; omega
                · refine hk _ _ ⟨ss ++ [s], ?_, by simp [t2], hi, ?_, ⟨_, _, rfl⟩, ?_, ?_⟩
                  · rw [htake, t1, List.map_append]; rfl
                  · rw [t4]; simp only [badD, hn, hm, not_false_eq_true, and_self, if_true]
                  · intro b o hb
                    have : b ≠ q := fun z => by rw [z, hq0] at hb; cases hb
                    rw [mup_ne this]
                    exact x2 _ _ (x1 _ _ hb)
                  · rw [mup_same, dOf_snoc, setK_new (by rw [lookK_dOf]; simp [hm]), t2]
                    simp
            | _ => cases hn
          · have hn : nameD dy = false := by simpa using hn
            simp only [hn, Bool.not_false, bplaces_of_5, wpSs, wpS, wpE, wpEs, wpG, wpGs, wpI, startS, List.map, List.append, List.replicate, gets, sets, wipes, List.cons_append, List.nil_append, Nat.sub, Nat.reduceSub, List.length, s_int, s_intb, s_abs, s_mod, s_mul, s_add, s_sub, s_fdiv, s_pow, s_eqi, s_lt, s_le, s_gt, s_ge, s_atr, s_atc, s_ats, atR_l, atN_0, atN_1, atN_2, tb_bool, s_set, setL_0, setL_2, mup_same, s_lenr, s_lenc, s_addr, s_rng, Int.reduceToNat, Int.reducePow, Int.reduceMul, Int.reduceAdd, Int.reduceMod, part, semEach, lenT]
            refine ⟨rfl, ?_⟩
            refine hx (.int i) M2 (x1.trans x2) ?_
            rw [et, t4]
            cases dy with
            | str s =>
              have hn : nameS s = false := hn
              simp only [badD, hn, Bool.false_eq_true, false_and, if_false]
              rfl
            | _ => rfl
        · obtain ⟨ss, t1, t2, t3, t4, ⟨o1, o2, rfl⟩, x1, t5⟩ := hI
          rw [enumI_length, hl] at t1 t2 t4
          rw [List.take_length] at t1
          simp (disch := omega) only [bplaces_of_7, wpSs, wpS, wpE, wpEs, wpG, wpGs, wpI, startS, List.map, List.append, List.replicate, gets, sets, wipes, List.cons_append, List.nil_append, Nat.sub, Nat.reduceSub, List.length, s_int, s_intb, s_abs, s_mod, s_mul, s_add, s_sub, s_fdiv, s_pow, s_eqi, s_lt, s_le, s_gt, s_ge, s_atr, s_atc, s_ats, atR_l, atN_0, atN_1, atN_2, tb_bool, s_set, setL_0, setL_2, mup_same, s_lenr, s_lenc, s_addr, s_rng, Int.reduceToNat, Int.reducePow, Int.reduceMul, Int.reduceAdd, Int.reduceMod, part, semEach, lenT]
          refine hq q ss M' x1 hq0 t5 (by rw [t1]) ?_
          rw [et, t4, List.drop_length]
          rfl
      · have e1 : decide ((1 : Int) ≤ (xs.length : Int)) = true := decide_eq_true (by omega)
        have e2 : decide ((xs.length : Int) ≤ 6) = false := decide_eq_false (by omega)
        simp (disch := omega) only [e1, e2, Bool.not_false, s_not, bplaces_of_1, wpSs, wpS, wpE, wpEs, wpG, wpGs, wpI, startS, List.map, List.append, List.replicate, gets, sets, wipes, List.cons_append, List.nil_append, Nat.sub, Nat.reduceSub, List.length, s_int, s_intb, s_abs, s_mod, s_mul, s_add, s_sub, s_fdiv, s_pow, s_eqi, s_lt, s_le, s_gt, s_ge, s_atr, s_atc, s_ats, atR_l, atN_0, atN_1, atN_2, tb_bool, s_set, setL_0, setL_2, mup_same, s_lenr, s_lenc, s_addr, s_rng, Int.reduceToNat, Int.reducePow, Int.reduceMul, Int.reduceAdd, Int.reduceMod, part, semEach, lenT]
        refine ⟨rfl, hx .none M Ext.refl (tagsErr_out (by omega))⟩
    · have e1 : decide ((1 : Int) ≤ (xs.length : Int)) = false := decide_eq_false (by omega)
      simp (disch := omega) only [e1, Bool.not_false, s_not, bplaces_of_1, wpSs, wpS, wpE, wpEs, wpG, wpGs, wpI, startS, List.map, List.append, List.replicate, gets, sets, wipes, List.cons_append, List.nil_append, Nat.sub, Nat.reduceSub, List.length, s_int, s_intb, s_abs, s_mod, s_mul, s_add, s_sub, s_fdiv, s_pow, s_eqi, s_lt, s_le, s_gt, s_ge, s_atr, s_atc, s_ats, atR_l, atN_0, atN_1, atN_2, tb_bool, s_set, setL_0, setL_2, mup_same, s_lenr, s_lenc, s_addr, s_rng, Int.reduceToNat, Int.reducePow, Int.reduceMul, Int.reduceAdd, Int.reduceMod, part, semEach, lenT]
      refine ⟨rfl, hx .none M Ext.refl (tagsErr_out (by omega))⟩
  | _ => simp only [isListD, Bool.not_false, bplaces_of_1, wpSs, wpS, wpE, wpEs, wpG, wpGs, wpI, startS, List.map, List.append, List.replicate, gets, sets, wipes, List.cons_append, List.nil_append, Nat.sub, Nat.reduceSub, List.length, s_int, s_intb, s_abs, s_mod, s_mul, s_add, s_sub, s_fdiv, s_pow, s_eqi, s_lt, s_le, s_gt, s_ge, s_atr, s_atc, s_ats, atR_l, atN_0, atN_1, atN_2, tb_bool, s_set, setL_0, setL_2, mup_same, s_lenr, s_lenc, s_addr, s_rng, Int.reduceToNat, Int.reducePow, Int.reduceMul, Int.reduceAdd, Int.reduceMod, part, semEach, lenT]; exact ⟨rfl, hx .none M Ext.refl rfl⟩
theorem checked_ok {q : Addr} {v : Val} {dd : PyData} {ts : List Str} (h : Dm M v dd) (hm : M q = some (.dct (dOf 0 ts)))
    (hq : ∀ v' M', Ext M M' → subjErr ts dd = none → Q v' M') (hx : ∀ e M', Ext M M' → subjErr ts dd = some e → X ⟨2, [("index", e)]⟩ M') : wpC (G0 ns) tbl (d + 2) nchecked_word [.ref q, v, .int 200] M Q X := by
  refine wpC_some (fn := fchecked_word) rfl rfl ?_
  simp (disch := omega) only [fchecked_word, bchecked_word_0, isCl_one, isB_list h, s_not, wpSs, wpS, wpE, wpEs, wpG, wpGs, wpI, startS, List.map, List.append, List.replicate, gets, sets, wipes, List.cons_append, List.nil_append, Nat.sub, Nat.reduceSub, List.length, s_int, s_intb, s_abs, s_mod, s_mul, s_add, s_sub, s_fdiv, s_pow, s_eqi, s_lt, s_le, s_gt, s_ge, s_atr, s_atc, s_ats, atR_l, atN_0, atN_1, atN_2, tb_bool, s_set, setL_0, setL_2, mup_same, s_lenr, s_lenc, s_addr, s_rng, Int.reduceToNat, Int.reducePow, Int.reduceMul, Int.reduceAdd, Int.reduceMod, part, semEach, lenT]
  cases h with
  | lst ha hds =>
    rename_i a xs ds
    have hl := dmAll_len hds
    simp (disch := omega) only [isListD, Bool.not_true, s_not, ha, wpSs, wpS, wpE, wpEs, wpG, wpGs, wpI, startS, List.map, List.append, List.replicate, gets, sets, wipes, List.cons_append, List.nil_append, Nat.sub, Nat.reduceSub, List.length, s_int, s_intb, s_abs, s_mod, s_mul, s_add, s_sub, s_fdiv, s_pow, s_eqi, s_lt, s_le, s_gt, s_ge, s_atr, s_atc, s_ats, atR_l, atN_0, atN_1, atN_2, tb_bool, s_set, setL_0, setL_2, mup_same, s_lenr, s_lenc, s_addr, s_rng, Int.reduceToNat, Int.reducePow, Int.reduceMul, Int.reduceAdd, Int.reduceMod, part, semEach, lenT]
    by_cases h1 : 200 < ds.length
    · have e1 : decide ((200 : Int) < (xs.length : Int)) = true := decide_eq_true (by omega)
      simp (disch := omega) only [e1, bchecked_word_1, wpSs, wpS, wpE, wpEs, wpG, wpGs, wpI, startS, List.map, List.append, List.replicate, gets, sets, wipes, List.cons_append, List.nil_append, Nat.sub, Nat.reduceSub, List.length, s_int, s_intb, s_abs, s_mod, s_mul, s_add, s_sub, s_fdiv, s_pow, s_eqi, s_lt, s_le, s_gt, s_ge, s_atr, s_atc, s_ats, atR_l, atN_0, atN_1, atN_2, tb_bool, s_set, setL_0, setL_2, mup_same, s_lenr, s_lenc, s_addr, s_rng, Int.reduceToNat, Int.reducePow, Int.reduceMul, Int.reduceAdd, Int.reduceMod, part, semEach, lenT]
      exact ⟨rfl, hx .none M Ext.refl (subjErr_long h1)⟩
    · have e1 : decide ((200 : Int) < (xs.length : Int)) = false := decide_eq_false (by omega)
      have et := subjErr_in (ts := ts) h1
      simp (disch := omega) only [e1, bchecked_word_2, bchecked_word_3, wpSs, wpS, wpE, wpEs, wpG, wpGs, wpI, startS, List.map, List.append, List.replicate, gets, sets, wipes, List.cons_append, List.nil_append, Nat.sub, Nat.reduceSub, List.length, s_int, s_intb, s_abs, s_mod, s_mul, s_add, s_sub, s_fdiv, s_pow, s_eqi, s_lt, s_le, s_gt, s_ge, s_atr, s_atc, s_ats, atR_l, atN_0, atN_1, atN_2, tb_bool, s_set, setL_0, setL_2, mup_same, s_lenr, s_lenc, s_addr, s_rng, Int.reduceToNat, Int.reducePow, Int.reduceMul, Int.reduceAdd, Int.reduceMod, part, semEach, lenT]
      refine ⟨Nat.zero_le _, ?_⟩
      intro b hb
      have ha1 := ext_new (o := MO.lst []) hb _ _ ha
      simp only [semEnum, ha1]
      refine for_idx (fun i σ M' => i ≤ ds.length ∧ firstBad ts ds 0 = firstBad ts (ds.drop i) i ∧ (∃ o1 o2, σ = [some (.ref q), some (.ref a), some (.int 200), some (.ref b), o1, o2]) ∧ Ext M M' ∧ ∃ acc : List Val, acc.length = i ∧ M' b = some (.lst acc))
        ⟨Nat.zero_le _, rfl, ⟨_, _, rfl⟩, ext_new hb, [], rfl, mup_same⟩ (fun i σ M' ⟨_, _, _, x, _⟩ => x _ _ ha) (fun i x σ M' k hx' hI hk => ?_) (fun σ M' hI => ?_)
      · obtain ⟨t3, t4, ⟨o1, o2, rfl⟩, x1, acc, t6, t5⟩ := hI
        obtain ⟨y, hy, rfl⟩ := enum_get hx'
        obtain ⟨dy, hdy, hdm⟩ := dmAll_get hds hy
        have hi : i < ds.length := (List.getElem?_eq_some_iff.mp hdy).1
        have hdrop : ds.drop i = dy :: ds.drop (i + 1) := by
          rw [List.drop_eq_getElem_cons hi]
          rw [List.getElem?_eq_getElem hi] at hdy
          cases hdy
          rfl
        rw [hdrop] at t4
        refine ⟨rfl, ?_⟩
        simp (disch := omega) only [bchecked_word_4, wpSs, wpS, wpE, wpEs, wpG, wpGs, wpI, startS, List.map, List.append, List.replicate, gets, sets, wipes, List.cons_append, List.nil_append, Nat.sub, Nat.reduceSub, List.length, s_int, s_intb, s_abs, s_mod, s_mul, s_add, s_sub, s_fdiv, s_pow, s_eqi, s_lt, s_le, s_gt, s_ge, s_atr, s_atc, s_ats, atR_l, atN_0, atN_1, atN_2, tb_bool, s_set, setL_0, setL_2, mup_same, s_lenr, s_lenc, s_addr, s_rng, Int.reduceToNat, Int.reducePow, Int.reduceMul, Int.reduceAdd, Int.reduceMod, part, semEach, lenT]
        refine is_tag_ok (hdm.mono x1) (x1 _ _ hm) ?_
        simp only [s_not, wpSs, wpS, wpE, wpEs, wpG, wpGs, wpI, startS, List.map, List.append, List.replicate, gets, sets, wipes, List.cons_append, List.nil_append, Nat.sub, Nat.reduceSub, List.length, s_int, s_intb, s_abs, s_mod, s_mul, s_add, s_sub, s_fdiv, s_pow, s_eqi, s_lt, s_le, s_gt, s_ge, s_atr, s_atc, s_ats, atR_l, atN_0, atN_1, atN_2, tb_bool, s_set, setL_0, setL_2, mup_same, s_lenr, s_lenc, s_addr, s_rng, Int.reduceToNat, Int.reducePow, Int.reduceMul, Int.reduceAdd, Int.reduceMod, part, semEach, lenT]
        have bad : firstBad ts (dy :: ds.drop (i + 1)) i = some i → wpSs (G0 ns) (wpC (G0 ns) tbl (d + 1)) bchecked_word_5 ⟨k, Q, fun σ M => wpSs (G0 ns) (wpC (G0 ns) tbl (d + 1)) bchecked_word_7 ⟨fun _ M' => Q .none M', Q, fun _ _ => False, fun _ _ => False, fun e _ M' => X e M'⟩ σ M, k, fun e _ M' => X e M'⟩ [some (.ref q), some (.ref a), some (.int 200), some (.ref b), some (.int (i : Nat)), some y] M' := fun hb => by
          simp (disch := omega) only [bchecked_word_5, wpSs, wpS, wpE, wpEs, wpG, wpGs, wpI, startS, List.map, List.append, List.replicate, gets, sets, wipes, List.cons_append, List.nil_append, Nat.sub, Nat.reduceSub, List.length, s_int, s_intb, s_abs, s_mod, s_mul, s_add, s_sub, s_fdiv, s_pow, s_eqi, s_lt, s_le, s_gt, s_ge, s_atr, s_atc, s_ats, atR_l, atN_0, atN_1, atN_2, tb_bool, s_set, setL_0, setL_2, mup_same, s_lenr, s_lenc, s_addr, s_rng, Int.reduceToNat, Int.reducePow, Int.reduceMul, Int.reduceAdd, Int.reduceMod, part, semEach, lenT]
          refine ⟨rfl, hx (.int i) M' x1 ?_⟩
          rw [et, t4, hb]
          rfl
        cases dy with
        | str s =>
          cases hdm
          by_cases hm2 : s ∈ ts
          · simp (disch := omega) only [hm2, decide_true, Bool.not_true, bchecked_word_6, x1 _ _ hm, s_app, wpSs, wpS, wpE, wpEs, wpG, wpGs, wpI, startS, List.map, List.append, List.replicate, gets, sets, wipes, List.cons_append, List.nil_append, Nat.sub, Nat.reduceSub, List.length, s_int, s_intb, s_abs, s_mod, s_mul, s_add, s_sub, s_fdiv, s_pow, s_eqi, s_lt, s_le, s_gt, s_ge, s_atr, s_atc, s_ats, atR_l, atN_0, atN_1, atN_2, tb_bool, s_set, setL_0, setL_2, mup_same, s_lenr, s_lenc, s_addr, s_rng, Int.reduceToNat, Int.reducePow, Int.reduceMul, Int.reduceAdd, Int.reduceMod, part, semEach, lenT]
            refine ⟨⟨_, t5⟩, ?_⟩
            have hs : (lookK (.str s) (dOf 0 ts)).isSome = true := by rw [lookK_dOf]; exact decide_eq_true hm2
            obtain ⟨w, hw⟩ := Option.isSome_iff_exists.mp hs
            unfold atR
            simp only [x1 _ _ hm]
            unfold atD
            refine ⟨rfl, ?_⟩
            simp only [hw, t5]
            refine ⟨by rw [t6]; show _ < 2 ^ 24; omega, hk _ _ ⟨hi, ?_, ⟨_, _, rfl⟩, ?_, _, ?_, mup_same⟩⟩
            · rw [t4]; simp only [firstBad, hm2, if_true]
            · intro z o hz
              have : z ≠ b := fun e => by rw [e, hb] at hz; cases hz
              rw [mup_ne this]
              exact x1 _ _ hz
            · simp [t6]
          · simp (disch := omega) only [hm2, decide_false, Bool.not_false]
            exact bad (by simp only [firstBad, hm2, if_false])
        | _ => simp (disch := omega) only [Bool.not_false]; exact bad rfl
      · obtain ⟨t3, t4, ⟨o1, o2, rfl⟩, x1, acc, t6, t5⟩ := hI
        rw [enumI_length, hl] at t4
        simp (disch := omega) only [bchecked_word_7, s_tupr, t5, wpSs, wpS, wpE, wpEs, wpG, wpGs, wpI, startS, List.map, List.append, List.replicate, gets, sets, wipes, List.cons_append, List.nil_append, Nat.sub, Nat.reduceSub, List.length, s_int, s_intb, s_abs, s_mod, s_mul, s_add, s_sub, s_fdiv, s_pow, s_eqi, s_lt, s_le, s_gt, s_ge, s_atr, s_atc, s_ats, atR_l, atN_0, atN_1, atN_2, tb_bool, s_set, setL_0, setL_2, mup_same, s_lenr, s_lenc, s_addr, s_rng, Int.reduceToNat, Int.reducePow, Int.reduceMul, Int.reduceAdd, Int.reduceMod, part, semEach, lenT]
        refine hq _ M' x1 ?_
        rw [et, t4, List.drop_length]
        rfl
  | _ => simp only [isListD, Bool.not_false, bchecked_word_1, wpSs, wpS, wpE, wpEs, wpG, wpGs, wpI, startS, List.map, List.append, List.replicate, gets, sets, wipes, List.cons_append, List.nil_append, Nat.sub, Nat.reduceSub, List.length, s_int, s_intb, s_abs, s_mod, s_mul, s_add, s_sub, s_fdiv, s_pow, s_eqi, s_lt, s_le, s_gt, s_ge, s_atr, s_atc, s_ats, atR_l, atN_0, atN_1, atN_2, tb_bool, s_set, setL_0, setL_2, mup_same, s_lenr, s_lenc, s_addr, s_rng, Int.reduceToNat, Int.reducePow, Int.reduceMul, Int.reduceAdd, Int.reduceMod, part, semEach, lenT]; exact ⟨rfl, hx .none M Ext.refl rfl⟩
theorem word_text_ok {a : Addr} {ws : List Str} (ha : M a = some (.lst (ws.map Val.str))) (h1 : ws.length ≤ 1000) (h2 : ∀ w ∈ ws, w.length ≤ 1000) (hq : Q (.str (wtext ws)) M) : wpC (G0 ns) tbl (d + 1) nword_text [.ref a] M Q X := by
  refine wpC_some (fn := fword_text) rfl rfl ?_
  simp (disch := omega) only [fword_text, bword_text_0, truthB, ha, wpSs, wpS, wpE, wpEs, wpG, wpGs, wpI, startS, List.map, List.append, List.replicate, gets, sets, wipes, List.cons_append, List.nil_append, Nat.sub, Nat.reduceSub, List.length, s_int, s_intb, s_abs, s_mod, s_mul, s_add, s_sub, s_fdiv, s_pow, s_eqi, s_lt, s_le, s_gt, s_ge, s_atr, s_atc, s_ats, atR_l, atN_0, atN_1, atN_2, tb_bool, s_set, setL_0, setL_2, mup_same, s_lenr, s_lenc, s_addr, s_rng, Int.reduceToNat, Int.reducePow, Int.reduceMul, Int.reduceAdd, Int.reduceMod, part, semEach, lenT]
  cases ws with
  | nil => simp only [List.map_nil, List.isEmpty_nil, Bool.not_true]; exact hq
  | cons w r =>
    simp only [List.map_cons, List.isEmpty_cons, Bool.not_false]
    refine ⟨trivial, s_join (ws := w :: r) ha h1 h2 (by decide) ?_⟩
    unfold wtext at hq
    rw [if_neg (by simp)] at hq
    exact hq
theorem subject_text_ok {tv v : Val} {td dd : PyData} (ht : Dm M tv td) (h : Dm M v dd) (hs : ∀ s ds, td = .list ds → PyData.str s ∈ ds → s.length ≤ 1000)
    (hq : ∀ ts ds M', Ext M M' → td = .list (ts.map PyData.str) → tagsErr td = none → dd = .list ds → subjErr ts dd = none → Q (.str (wtext (strsD ds))) M')
    (hx1 : ∀ e M', Ext M M' → tagsErr td = some e → X ⟨1, [("index", e)]⟩ M')
    (hx2 : ∀ ts e M', Ext M M' → td = .list (ts.map PyData.str) → tagsErr td = none → subjErr ts dd = some e → X ⟨2, [("index", e)]⟩ M') : wpC (G0 ns) tbl (d + 3) nsubject_text [tv, v] M Q X := by
  refine wpC_some (fn := fsubject_text) rfl rfl ?_
  simp (disch := omega) only [fsubject_text, bsubject_text_0, wpSs, wpS, wpE, wpEs, wpG, wpGs, wpI, startS, List.map, List.append, List.replicate, gets, sets, wipes, List.cons_append, List.nil_append, Nat.sub, Nat.reduceSub, List.length, s_int, s_intb, s_abs, s_mod, s_mul, s_add, s_sub, s_fdiv, s_pow, s_eqi, s_lt, s_le, s_gt, s_ge, s_atr, s_atc, s_ats, atR_l, atN_0, atN_1, atN_2, tb_bool, s_set, setL_0, setL_2, mup_same, s_lenr, s_lenc, s_addr, s_rng, Int.reduceToNat, Int.reducePow, Int.reduceMul, Int.reduceAdd, Int.reduceMod, part, semEach, lenT]
  refine places_ok (d := d) ht (fun s ds e1 e2 => Nat.le_trans (hs s ds e1 e2) (by decide)) (fun q ts M1 x1 hq0 hm e1 e2 => ?_) (fun e M1 x1 e1 => hx1 e M1 x1 e1)
  refine checked_ok (d := d) (h.mono x1) hm (fun v' M2 x2 e3 => ?_) (fun e M2 x2 e3 => hx2 ts e M2 (x1.trans x2) e1 e2 e3)
  simp (disch := omega) only [bsubject_text_1, wpSs, wpS, wpE, wpEs, wpG, wpGs, wpI, startS, List.map, List.append, List.replicate, gets, sets, wipes, List.cons_append, List.nil_append, Nat.sub, Nat.reduceSub, List.length, s_int, s_intb, s_abs, s_mod, s_mul, s_add, s_sub, s_fdiv, s_pow, s_eqi, s_lt, s_le, s_gt, s_ge, s_atr, s_atc, s_ats, atR_l, atN_0, atN_1, atN_2, tb_bool, s_set, setL_0, setL_2, mup_same, s_lenr, s_lenc, s_addr, s_rng, Int.reduceToNat, Int.reducePow, Int.reduceMul, Int.reduceAdd, Int.reduceMod, part, semEach, lenT]
  cases h with
  | lst ha hds =>
    rename_i a xs ds
    have hlong : ¬ 200 < ds.length := fun z => by rw [subjErr_long z] at e3; cases e3
    rw [subjErr_in hlong] at e3
    have e4 : firstBad ts ds 0 = none := by
      cases e : firstBad ts ds 0 with
      | none => rfl
      | some i => rw [e] at e3; cases e3
    obtain ⟨f1, f2⟩ := firstBad_strs e4
    have hxs : xs = (strsD ds).map Val.str := dmAll_strs (by rw [← f1]; exact hds)
    have hl : ds.length = (strsD ds).length := by
      have := congrArg List.length f1
      rwa [List.length_map] at this
    refine word_text_ok (d := d + 1) (ws := strsD ds) (by rw [x2 _ _ (x1 _ _ ha), hxs]) (by omega) (fun w hw => hs w _ e1 (List.mem_map.mpr ⟨w, f2 w hw, rfl⟩)) ?_
    exact hq ts ds M2 (x1.trans x2) e1 e2 rfl (by rw [subjErr_in hlong, e4]; rfl)
  | _ => cases e3
theorem dash_ok : PyData.strOk "-" = true := by decide +kernel
theorem tags_of_ok {q : Addr} {x : Str} {ts : List Str} (hm : M q = some (.dct (dOf 0 ts))) (hx : x.length ≤ 100000) (ho : PyData.strOk x = true)
    (hq : ∀ v M', Ext M M' → (match textD ts x with | none => v = .none | some ws => ∃ b, v = .ref b ∧ M' b = some (.lst (ws.map Val.str))) → Q v M') : wpC (G0 ns) tbl (d + 2) ntags_of [.ref q, .str x, .int 200] M Q X := by
  refine wpC_some (fn := ftags_of) rfl rfl ?_
  simp (disch := first | exact ho | exact dash_ok | omega) only [ftags_of, btags_of_0, s_eqs, wpSs, wpS, wpE, wpEs, wpG, wpGs, wpI, startS, List.map, List.append, List.replicate, gets, sets, wipes, List.cons_append, List.nil_append, Nat.sub, Nat.reduceSub, List.length, s_int, s_intb, s_abs, s_mod, s_mul, s_add, s_sub, s_fdiv, s_pow, s_eqi, s_lt, s_le, s_gt, s_ge, s_atr, s_atc, s_ats, atR_l, atN_0, atN_1, atN_2, tb_bool, s_set, setL_0, setL_2, mup_same, s_lenr, s_lenc, s_addr, s_rng, Int.reduceToNat, Int.reducePow, Int.reduceMul, Int.reduceAdd, Int.reduceMod, part, semEach, lenT]
  by_cases h1 : x = "-"
  · simp only [h1, decide_true, btags_of_1, wpSs, wpS, wpE, wpEs, wpG, wpGs, wpI, startS, List.map, List.append, List.replicate, gets, sets, wipes, List.cons_append, List.nil_append, Nat.sub, Nat.reduceSub, List.length, s_int, s_intb, s_abs, s_mod, s_mul, s_add, s_sub, s_fdiv, s_pow, s_eqi, s_lt, s_le, s_gt, s_ge, s_atr, s_atc, s_ats, atR_l, atN_0, atN_1, atN_2, tb_bool, s_set, setL_0, setL_2, mup_same, s_lenr, s_lenc, s_addr, s_rng, Int.reduceToNat, Int.reducePow, Int.reduceMul, Int.reduceAdd, Int.reduceMod, part, semEach, lenT]
    refine ⟨Nat.zero_le _, fun b hb => hq _ _ (ext_new hb) ?_⟩
    have : textD ts x = some [] := if_pos h1
    rw [this]
    exact ⟨b, rfl, mup_same⟩
  · simp (disch := omega) only [h1, decide_false, btags_of_2, s_split, wpSs, wpS, wpE, wpEs, wpG, wpGs, wpI, startS, List.map, List.append, List.replicate, gets, sets, wipes, List.cons_append, List.nil_append, Nat.sub, Nat.reduceSub, List.length, s_int, s_intb, s_abs, s_mod, s_mul, s_add, s_sub, s_fdiv, s_pow, s_eqi, s_lt, s_le, s_gt, s_ge, s_atr, s_atc, s_ats, atR_l, atN_0, atN_1, atN_2, tb_bool, s_set, setL_0, setL_2, mup_same, s_lenr, s_lenc, s_addr, s_rng, Int.reduceToNat, Int.reducePow, Int.reduceMul, Int.reduceAdd, Int.reduceMod, part, semEach, lenT]
    refine ⟨trivial, ?_⟩
    intro b hb
    have hm1 := ext_new (o := MO.lst ((Txt.split x " ").map Val.str)) hb _ _ hm
    simp (disch := omega) only [btags_of_3, mup_same, List.length_map, wpSs, wpS, wpE, wpEs, wpG, wpGs, wpI, startS, List.map, List.append, List.replicate, gets, sets, wipes, List.cons_append, List.nil_append, Nat.sub, Nat.reduceSub, List.length, s_int, s_intb, s_abs, s_mod, s_mul, s_add, s_sub, s_fdiv, s_pow, s_eqi, s_lt, s_le, s_gt, s_ge, s_atr, s_atc, s_ats, atR_l, atN_0, atN_1, atN_2, tb_bool, s_set, setL_0, setL_2, mup_same, s_lenr, s_lenc, s_addr, s_rng, Int.reduceToNat, Int.reducePow, Int.reduceMul, Int.reduceAdd, Int.reduceMod, part, semEach, lenT]
    by_cases h2 : 200 < (Txt.split x " ").length
    · have e1 : decide ((200 : Int) < ((Txt.split x " ").length : Int)) = true := decide_eq_true (by omega)
      simp (disch := omega) only [e1, btags_of_4, wpSs, wpS, wpE, wpEs, wpG, wpGs, wpI, startS, List.map, List.append, List.replicate, gets, sets, wipes, List.cons_append, List.nil_append, Nat.sub, Nat.reduceSub, List.length, s_int, s_intb, s_abs, s_mod, s_mul, s_add, s_sub, s_fdiv, s_pow, s_eqi, s_lt, s_le, s_gt, s_ge, s_atr, s_atc, s_ats, atR_l, atN_0, atN_1, atN_2, tb_bool, s_set, setL_0, setL_2, mup_same, s_lenr, s_lenc, s_addr, s_rng, Int.reduceToNat, Int.reducePow, Int.reduceMul, Int.reduceAdd, Int.reduceMod, part, semEach, lenT]
      refine hq _ _ (ext_new hb) ?_
      unfold textD
      rw [if_neg h1, if_pos h2]
    · have e1 : decide ((200 : Int) < ((Txt.split x " ").length : Int)) = false := decide_eq_false (by omega)
      simp (disch := omega) only [e1, mup_same, wpSs, wpS, wpE, wpEs, wpG, wpGs, wpI, startS, List.map, List.append, List.replicate, gets, sets, wipes, List.cons_append, List.nil_append, Nat.sub, Nat.reduceSub, List.length, s_int, s_intb, s_abs, s_mod, s_mul, s_add, s_sub, s_fdiv, s_pow, s_eqi, s_lt, s_le, s_gt, s_ge, s_atr, s_atc, s_ats, atR_l, atN_0, atN_1, atN_2, tb_bool, s_set, setL_0, setL_2, mup_same, s_lenr, s_lenc, s_addr, s_rng, Int.reduceToNat, Int.reducePow, Int.reduceMul, Int.reduceAdd, Int.reduceMod, part, semEach, lenT]
      refine comp_idx (fun i acc M' => acc = (((Txt.split x " ").take i).map fun w => decide (w ∈ ts)).map Val.bool ∧ M' = mup M b (.lst ((Txt.split x " ").map Val.str))) ⟨rfl, rfl⟩ (fun _ _ _ h => by rw [h.2]; exact mup_same) (fun i y acc M' k hy hI hk => ?_) (fun acc M' hI => ?_)
      · obtain ⟨e, em⟩ := hI
        rw [List.getElem?_map] at hy
        cases hw : (Txt.split x " ")[i]? with
        | none => rw [hw] at hy; cases hy
        | some w =>
          rw [hw] at hy
          cases hy
          have hi : i < (Txt.split x " ").length := (List.getElem?_eq_some_iff.mp hw).1
          subst em
          refine is_tag_ok (.str w) hm1 ?_
          refine ⟨by rw [e]; simp only [List.length_map, List.length_take]; show _ < 2 ^ 24; omega, hk _ _ ⟨?_, rfl⟩⟩
          rw [e, List.take_add_one, hw, List.map_append, List.map_append]
          rfl
      · obtain ⟨e, em⟩ := hI
        subst em e
        intro b2 hb2
        simp only [s_allr, mup_same, boolsOf_map, s_not, wpSs, wpS, wpE, wpEs, wpG, wpGs, wpI, startS, List.map, List.append, List.replicate, gets, sets, wipes, List.cons_append, List.nil_append, Nat.sub, Nat.reduceSub, List.length, s_int, s_intb, s_abs, s_mod, s_mul, s_add, s_sub, s_fdiv, s_pow, s_eqi, s_lt, s_le, s_gt, s_ge, s_atr, s_atc, s_ats, atR_l, atN_0, atN_1, atN_2, tb_bool, s_set, setL_0, setL_2, mup_same, s_lenr, s_lenc, s_addr, s_rng, Int.reduceToNat, Int.reducePow, Int.reduceMul, Int.reduceAdd, Int.reduceMod, part, semEach, lenT]
        rw [List.length_map, List.take_length]
        have ea : (((Txt.split x " ").map fun w => decide (w ∈ ts)).all id) = (Txt.split x " ").all (fun w => decide (w ∈ ts)) := by rw [List.all_map]; rfl
        rw [ea]
        cases hb3 : (Txt.split x " ").all (fun w => decide (w ∈ ts)) with
        | true =>
          simp only [Bool.not_true, btags_of_5, wpSs, wpS, wpE, wpEs, wpG, wpGs, wpI, startS, List.map, List.append, List.replicate, gets, sets, wipes, List.cons_append, List.nil_append, Nat.sub, Nat.reduceSub, List.length, s_int, s_intb, s_abs, s_mod, s_mul, s_add, s_sub, s_fdiv, s_pow, s_eqi, s_lt, s_le, s_gt, s_ge, s_atr, s_atc, s_ats, atR_l, atN_0, atN_1, atN_2, tb_bool, s_set, setL_0, setL_2, mup_same, s_lenr, s_lenc, s_addr, s_rng, Int.reduceToNat, Int.reducePow, Int.reduceMul, Int.reduceAdd, Int.reduceMod, part, semEach, lenT]
          refine hq _ _ ((ext_new hb).trans (ext_new hb2)) ?_
          have : textD ts x = some (Txt.split x " ") := by unfold textD; rw [if_neg h1, if_neg h2, if_pos hb3]
          rw [this]
          exact ⟨b, rfl, ext_new hb2 _ _ mup_same⟩
        | false =>
          simp only [Bool.not_false, btags_of_4, wpSs, wpS, wpE, wpEs, wpG, wpGs, wpI, startS, List.map, List.append, List.replicate, gets, sets, wipes, List.cons_append, List.nil_append, Nat.sub, Nat.reduceSub, List.length, s_int, s_intb, s_abs, s_mod, s_mul, s_add, s_sub, s_fdiv, s_pow, s_eqi, s_lt, s_le, s_gt, s_ge, s_atr, s_atc, s_ats, atR_l, atN_0, atN_1, atN_2, tb_bool, s_set, setL_0, setL_2, mup_same, s_lenr, s_lenc, s_addr, s_rng, Int.reduceToNat, Int.reducePow, Int.reduceMul, Int.reduceAdd, Int.reduceMod, part, semEach, lenT]
          refine hq _ _ ((ext_new hb).trans (ext_new hb2)) ?_
          have : textD ts x = none := by unfold textD; rw [if_neg h1, if_neg h2, if_neg (by rw [hb3]; decide)]
          rw [this]
theorem read_ok {tv v : Val} {td dd : PyData} (ht : Dm M tv td) (h : Dm M v dd) (hs : ∀ s ds, td = .list ds → PyData.str s ∈ ds → s.length ≤ 1000) (hx : ∀ x, dd = .str x → x.length ≤ 100000 ∧ PyData.strOk x = true)
    (hq : ∀ ts x ws b M', Ext M M' → td = .list (ts.map PyData.str) → tagsErr td = none → dd = .str x → textD ts x = some ws → M' b = some (.lst (ws.map Val.str)) → Q (.ref b) M')
    (hx1 : ∀ e M', Ext M M' → tagsErr td = some e → X ⟨1, [("index", e)]⟩ M')
    (hx2 : ∀ M', Ext M M' → tagsErr td = none → isStrD dd = false → X ⟨4, [("line", .none)]⟩ M')
    (hx3 : ∀ ts x M', Ext M M' → td = .list (ts.map PyData.str) → tagsErr td = none → dd = .str x → textD ts x = none → X ⟨4, [("line", .int 0)]⟩ M') : wpC (G0 ns) tbl (d + 3) nread_subject [tv, v] M Q X := by
  refine wpC_some (fn := fread_subject) rfl rfl ?_
  simp (disch := omega) only [fread_subject, bread_subject_0, wpSs, wpS, wpE, wpEs, wpG, wpGs, wpI, startS, List.map, List.append, List.replicate, gets, sets, wipes, List.cons_append, List.nil_append, Nat.sub, Nat.reduceSub, List.length, s_int, s_intb, s_abs, s_mod, s_mul, s_add, s_sub, s_fdiv, s_pow, s_eqi, s_lt, s_le, s_gt, s_ge, s_atr, s_atc, s_ats, atR_l, atN_0, atN_1, atN_2, tb_bool, s_set, setL_0, setL_2, mup_same, s_lenr, s_lenc, s_addr, s_rng, Int.reduceToNat, Int.reducePow, Int.reduceMul, Int.reduceAdd, Int.reduceMod, part, semEach, lenT]
  refine places_ok (d := d) ht (fun s ds e1 e2 => Nat.le_trans (hs s ds e1 e2) (by decide)) (fun q ts M1 x1 hq0 hm e1 e2 => ?_) (fun e M1 x1 e1 => hx1 e M1 x1 e1)
  simp (disch := omega) only [bread_subject_1, isCl_one, isB_str (h.mono x1), s_not, wpSs, wpS, wpE, wpEs, wpG, wpGs, wpI, startS, List.map, List.append, List.replicate, gets, sets, wipes, List.cons_append, List.nil_append, Nat.sub, Nat.reduceSub, List.length, s_int, s_intb, s_abs, s_mod, s_mul, s_add, s_sub, s_fdiv, s_pow, s_eqi, s_lt, s_le, s_gt, s_ge, s_atr, s_atc, s_ats, atR_l, atN_0, atN_1, atN_2, tb_bool, s_set, setL_0, setL_2, mup_same, s_lenr, s_lenc, s_addr, s_rng, Int.reduceToNat, Int.reducePow, Int.reduceMul, Int.reduceAdd, Int.reduceMod, part, semEach, lenT]
  cases h with
  | str x =>
    obtain ⟨l1, l2⟩ := hx x rfl
    simp (disch := omega) only [isStrD, Bool.not_true, bread_subject_3, s_not, wpSs, wpS, wpE, wpEs, wpG, wpGs, wpI, startS, List.map, List.append, List.replicate, gets, sets, wipes, List.cons_append, List.nil_append, Nat.sub, Nat.reduceSub, List.length, s_int, s_intb, s_abs, s_mod, s_mul, s_add, s_sub, s_fdiv, s_pow, s_eqi, s_lt, s_le, s_gt, s_ge, s_atr, s_atc, s_ats, atR_l, atN_0, atN_1, atN_2, tb_bool, s_set, setL_0, setL_2, mup_same, s_lenr, s_lenc, s_addr, s_rng, Int.reduceToNat, Int.reducePow, Int.reduceMul, Int.reduceAdd, Int.reduceMod, part, semEach, lenT]
    refine tags_of_ok (d := d) hm l1 l2 (fun v M2 x2 hv => ?_)
    cases e3 : textD ts x with
    | none =>
      rw [e3] at hv
      have hv : v = .none := hv
      subst hv
      simp (disch := omega) only [bread_subject_4, s_isN, bread_subject_5, wpSs, wpS, wpE, wpEs, wpG, wpGs, wpI, startS, List.map, List.append, List.replicate, gets, sets, wipes, List.cons_append, List.nil_append, Nat.sub, Nat.reduceSub, List.length, s_int, s_intb, s_abs, s_mod, s_mul, s_add, s_sub, s_fdiv, s_pow, s_eqi, s_lt, s_le, s_gt, s_ge, s_atr, s_atc, s_ats, atR_l, atN_0, atN_1, atN_2, tb_bool, s_set, setL_0, setL_2, mup_same, s_lenr, s_lenc, s_addr, s_rng, Int.reduceToNat, Int.reducePow, Int.reduceMul, Int.reduceAdd, Int.reduceMod, part, semEach, lenT]
      exact ⟨rfl, hx3 ts x M2 (x1.trans x2) e1 e2 rfl e3⟩
    | some ws =>
      rw [e3] at hv
      obtain ⟨b, rfl, hb⟩ := hv
      simp (disch := omega) only [bread_subject_4, s_isN, bread_subject_6, wpSs, wpS, wpE, wpEs, wpG, wpGs, wpI, startS, List.map, List.append, List.replicate, gets, sets, wipes, List.cons_append, List.nil_append, Nat.sub, Nat.reduceSub, List.length, s_int, s_intb, s_abs, s_mod, s_mul, s_add, s_sub, s_fdiv, s_pow, s_eqi, s_lt, s_le, s_gt, s_ge, s_atr, s_atc, s_ats, atR_l, atN_0, atN_1, atN_2, tb_bool, s_set, setL_0, setL_2, mup_same, s_lenr, s_lenc, s_addr, s_rng, Int.reduceToNat, Int.reducePow, Int.reduceMul, Int.reduceAdd, Int.reduceMod, part, semEach, lenT]
      exact hq ts x ws b M2 (x1.trans x2) e1 e2 rfl e3 hb
  | _ => simp only [isStrD, Bool.not_false, bread_subject_2, wpSs, wpS, wpE, wpEs, wpG, wpGs, wpI, startS, List.map, List.append, List.replicate, gets, sets, wipes, List.cons_append, List.nil_append, Nat.sub, Nat.reduceSub, List.length, s_int, s_intb, s_abs, s_mod, s_mul, s_add, s_sub, s_fdiv, s_pow, s_eqi, s_lt, s_le, s_gt, s_ge, s_atr, s_atc, s_ats, atR_l, atN_0, atN_1, atN_2, tb_bool, s_set, setL_0, setL_2, mup_same, s_lenr, s_lenc, s_addr, s_rng, Int.reduceToNat, Int.reducePow, Int.reduceMul, Int.reduceAdd, Int.reduceMod, part, semEach, lenT]; exact ⟨rfl, hx2 M1 x1 e2 rfl⟩
end
end K60
namespace K60
open PySem MP
section
variable {ns : List Int} {d : Nat} {M : Mem} {Q : VK} {X : XK} {C : Calls} {ex : Exn → Sg → Mem → Prop}
abbrev De (Q : VK) (ex : Exn → Sg → Mem → Prop) : DE := ⟨fun _ M' => Q .none M', Q, fun _ _ => False, fun _ _ => False, ex⟩
theorem told_e1 {o0 o1 o2 o4 o5 : Option Val} {a : Addr} {e : Val} {de : PyData} (ha : M a = some (.exc 1 [("index", e)])) (he : ∀ M, Dm M e de) (hq : ∀ r M', Ext M M' → Dm M' (.ref r) (.list [.str "tags", de]) → Q (.ref r) M') :
    wpSs (G0 ns) C b_law_told_6 (De Q ex) [o0, o1, o2, some (.ref a), o4, o5] M := by
  simp (disch := omega) only [b_law_told_6, b_law_told_8, b_law_told_10, b_law_told_11, s_isN, isCl_one, isB, ha, s_not, Bool.not_true, Bool.not_false, iso_1_InvalidEater, iso_1_InvalidSubject, iso_1_InvalidTags, iso_1_InvalidText, iso_1_TagError, iso_1_ValueError, iso_1_list, iso_1_str, efs_1, iso_2_InvalidEater, iso_2_InvalidSubject, iso_2_InvalidTags, iso_2_InvalidText, iso_2_TagError, iso_2_ValueError, iso_2_list, iso_2_str, efs_2, iso_4_InvalidEater, iso_4_InvalidSubject, iso_4_InvalidTags, iso_4_InvalidText, iso_4_TagError, iso_4_ValueError, iso_4_list, iso_4_str, efs_4, wpSs, wpS, wpE, wpEs, wpG, wpGs, wpI, startS, List.map, List.append, List.replicate, gets, sets, wipes, List.cons_append, List.nil_append, Nat.sub, Nat.reduceSub, List.length, s_int, s_intb, s_abs, s_mod, s_mul, s_add, s_sub, s_fdiv, s_pow, s_eqi, s_lt, s_le, s_gt, s_ge, s_atr, s_atc, s_ats, atR_l, atN_0, atN_1, atN_2, tb_bool, s_set, setL_0, setL_2, mup_same, s_lenr, s_lenc, s_addr, s_rng, Int.reduceToNat, Int.reducePow, Int.reduceMul, Int.reduceAdd, Int.reduceMod, part, semEach, lenT]
  have e1 : List.lookup ("index" : Str) [(("index" : Str), e)] = some e := rfl
  simp only [e1]
  exact ⟨by decide, fun r hr => hq r _ (ext_new hr) (dm2 (.str _) (he _) mup_same)⟩
theorem told_e2 {o0 o1 o2 o4 o5 : Option Val} {a : Addr} {e : Val} {de : PyData} (ha : M a = some (.exc 2 [("index", e)])) (he : ∀ M, Dm M e de) (hq : ∀ r M', Ext M M' → Dm M' (.ref r) (.list [.str "subject", de]) → Q (.ref r) M') :
    wpSs (G0 ns) C b_law_told_6 (De Q ex) [o0, o1, o2, some (.ref a), o4, o5] M := by
  simp (disch := omega) only [b_law_told_6, b_law_told_8, b_law_told_10, b_law_told_12, b_law_told_13, s_isN, isCl_one, isB, ha, s_not, Bool.not_true, Bool.not_false, iso_1_InvalidEater, iso_1_InvalidSubject, iso_1_InvalidTags, iso_1_InvalidText, iso_1_TagError, iso_1_ValueError, iso_1_list, iso_1_str, efs_1, iso_2_InvalidEater, iso_2_InvalidSubject, iso_2_InvalidTags, iso_2_InvalidText, iso_2_TagError, iso_2_ValueError, iso_2_list, iso_2_str, efs_2, iso_4_InvalidEater, iso_4_InvalidSubject, iso_4_InvalidTags, iso_4_InvalidText, iso_4_TagError, iso_4_ValueError, iso_4_list, iso_4_str, efs_4, wpSs, wpS, wpE, wpEs, wpG, wpGs, wpI, startS, List.map, List.append, List.replicate, gets, sets, wipes, List.cons_append, List.nil_append, Nat.sub, Nat.reduceSub, List.length, s_int, s_intb, s_abs, s_mod, s_mul, s_add, s_sub, s_fdiv, s_pow, s_eqi, s_lt, s_le, s_gt, s_ge, s_atr, s_atc, s_ats, atR_l, atN_0, atN_1, atN_2, tb_bool, s_set, setL_0, setL_2, mup_same, s_lenr, s_lenc, s_addr, s_rng, Int.reduceToNat, Int.reducePow, Int.reduceMul, Int.reduceAdd, Int.reduceMod, part, semEach, lenT]
  have e1 : List.lookup ("index" : Str) [(("index" : Str), e)] = some e := rfl
  simp only [e1]
  exact ⟨by decide, fun r hr => hq r _ (ext_new hr) (dm2 (.str _) (he _) mup_same)⟩
theorem told_e4 {o0 o1 o2 o4 o5 : Option Val} {a : Addr} {e : Val} {de : PyData} (ha : M a = some (.exc 4 [("line", e)])) (he : ∀ M, Dm M e de) (hq : ∀ r M', Ext M M' → Dm M' (.ref r) (.list [.str "line", de]) → Q (.ref r) M') :
    wpSs (G0 ns) C b_law_told_6 (De Q ex) [o0, o1, o2, some (.ref a), o4, o5] M := by
  simp (disch := omega) only [b_law_told_6, b_law_told_8, b_law_told_10, b_law_told_12, s_isN, isCl_one, isB, ha, s_not, Bool.not_true, Bool.not_false, iso_1_InvalidEater, iso_1_InvalidSubject, iso_1_InvalidTags, iso_1_InvalidText, iso_1_TagError, iso_1_ValueError, iso_1_list, iso_1_str, efs_1, iso_2_InvalidEater, iso_2_InvalidSubject, iso_2_InvalidTags, iso_2_InvalidText, iso_2_TagError, iso_2_ValueError, iso_2_list, iso_2_str, efs_2, iso_4_InvalidEater, iso_4_InvalidSubject, iso_4_InvalidTags, iso_4_InvalidText, iso_4_TagError, iso_4_ValueError, iso_4_list, iso_4_str, efs_4, wpSs, wpS, wpE, wpEs, wpG, wpGs, wpI, startS, List.map, List.append, List.replicate, gets, sets, wipes, List.cons_append, List.nil_append, Nat.sub, Nat.reduceSub, List.length, s_int, s_intb, s_abs, s_mod, s_mul, s_add, s_sub, s_fdiv, s_pow, s_eqi, s_lt, s_le, s_gt, s_ge, s_atr, s_atc, s_ats, atR_l, atN_0, atN_1, atN_2, tb_bool, s_set, setL_0, setL_2, mup_same, s_lenr, s_lenc, s_addr, s_rng, Int.reduceToNat, Int.reducePow, Int.reduceMul, Int.reduceAdd, Int.reduceMod, part, semEach, lenT]
  simp (disch := omega) only [b_law_told_14, isCl_one, isB, ha, iso_1_InvalidEater, iso_1_InvalidSubject, iso_1_InvalidTags, iso_1_InvalidText, iso_1_TagError, iso_1_ValueError, iso_1_list, iso_1_str, efs_1, iso_2_InvalidEater, iso_2_InvalidSubject, iso_2_InvalidTags, iso_2_InvalidText, iso_2_TagError, iso_2_ValueError, iso_2_list, iso_2_str, efs_2, iso_4_InvalidEater, iso_4_InvalidSubject, iso_4_InvalidTags, iso_4_InvalidText, iso_4_TagError, iso_4_ValueError, iso_4_list, iso_4_str, efs_4, wpSs, wpS, wpE, wpEs, wpG, wpGs, wpI, startS, List.map, List.append, List.replicate, gets, sets, wipes, List.cons_append, List.nil_append, Nat.sub, Nat.reduceSub, List.length, s_int, s_intb, s_abs, s_mod, s_mul, s_add, s_sub, s_fdiv, s_pow, s_eqi, s_lt, s_le, s_gt, s_ge, s_atr, s_atc, s_ats, atR_l, atN_0, atN_1, atN_2, tb_bool, s_set, setL_0, setL_2, mup_same, s_lenr, s_lenc, s_addr, s_rng, Int.reduceToNat, Int.reducePow, Int.reduceMul, Int.reduceAdd, Int.reduceMod, part, semEach, lenT]
  have e1 : List.lookup ("line" : Str) [(("line" : Str), e)] = some e := rfl
  simp only [e1]
  exact ⟨by decide, fun r hr => hq r _ (ext_new hr) (dm2 (.str _) (he _) mup_same)⟩
theorem told_n {o0 o1 o2 o5 : Option Val} {v : Val} (hq : Q v M) : wpSs (G0 ns) C b_law_told_6 (De Q ex) [o0, o1, o2, some .none, some v, o5] M := by
  simp (disch := omega) only [b_law_told_6, b_law_told_7, s_isN, wpSs, wpS, wpE, wpEs, wpG, wpGs, wpI, startS, List.map, List.append, List.replicate, gets, sets, wipes, List.cons_append, List.nil_append, Nat.sub, Nat.reduceSub, List.length, s_int, s_intb, s_abs, s_mod, s_mul, s_add, s_sub, s_fdiv, s_pow, s_eqi, s_lt, s_le, s_gt, s_ge, s_atr, s_atc, s_ats, atR_l, atN_0, atN_1, atN_2, tb_bool, s_set, setL_0, setL_2, mup_same, s_lenr, s_lenc, s_addr, s_rng, Int.reduceToNat, Int.reducePow, Int.reduceMul, Int.reduceAdd, Int.reduceMod, part, semEach, lenT]
  exact hq
theorem told0_ok {tv v : Val} {td dd : PyData} (ht : Dm M tv td) (h : Dm M v dd) (hs : ∀ s ds, td = .list ds → PyData.str s ∈ ds → s.length ≤ 1000) (hq : ∀ r M', Ext M M' → Dm M' (.ref r) (told0 td dd) → Q (.ref r) M') :
    wpC (G0 ns) tbl (d + 4) n_law_told [.int 0, tv, v] M Q X := by
  refine wpC_some (fn := f_law_told) rfl rfl ?_
  simp (disch := omega) only [f_law_told, b_law_told_0, b_law_told_1, b_law_told_2, b_law_told_3, s_not, decide_true, b_law_told_4, wpSs, wpS, wpE, wpEs, wpG, wpGs, wpI, startS, List.map, List.append, List.replicate, gets, sets, wipes, List.cons_append, List.nil_append, Nat.sub, Nat.reduceSub, List.length, s_int, s_intb, s_abs, s_mod, s_mul, s_add, s_sub, s_fdiv, s_pow, s_eqi, s_lt, s_le, s_gt, s_ge, s_atr, s_atc, s_ats, atR_l, atN_0, atN_1, atN_2, tb_bool, s_set, setL_0, setL_2, mup_same, s_lenr, s_lenc, s_addr, s_rng, Int.reduceToNat, Int.reducePow, Int.reduceMul, Int.reduceAdd, Int.reduceMod, part, semEach, lenT]
  refine subject_text_ok (d := d) ht h hs (fun ts ds M1 x1 e1 e2 e3 e4 => ?_) (fun e M1 x1 e1 => ?_) (fun ts e M1 x1 e1 e2 e3 => ?_)
  · refine ⟨by decide, fun r hr => ?_⟩
    refine told_n (hq r _ (x1.trans (ext_new hr)) ?_)
    have : told0 td dd = .list [.str "text of", .str (wtext (strsD ds))] := by
      unfold told0
      rw [e2]
      dsimp only
      unfold subjD
      rw [e1, show tdL (.list (ts.map PyData.str)) = ts from strsD_map, e4, e3]
      rfl
    rw [this]
    exact dm2 (.str _) (.str _) mup_same
  · simp only [DE.xk, iso_1_TagError, if_true, sets]
    intro a ha
    refine told_e1 (de := valD e) mup_same (fun M => tagsErr_dm e1) fun r M' x2 hd => hq r M' (x1.trans ((ext_new ha).trans x2)) ?_
    unfold told0
    rw [e1]
    exact hd
  · simp only [DE.xk, iso_2_TagError, if_true, sets]
    intro a ha
    refine told_e2 (de := valD e) mup_same (fun M => subjErr_dm e3) fun r M' x2 hd => hq r M' (x1.trans ((ext_new ha).trans x2)) ?_
    unfold told0
    rw [e2]
    dsimp only
    unfold subjD
    rw [e1, show tdL (.list (ts.map PyData.str)) = ts from strsD_map, e3]
    exact hd
theorem told1_ok {tv v : Val} {td dd : PyData} (ht : Dm M tv td) (h : Dm M v dd) (hs : ∀ s ds, td = .list ds → PyData.str s ∈ ds → s.length ≤ 1000) (hx : ∀ x, dd = .str x → x.length ≤ 100000 ∧ PyData.strOk x = true) (hq : ∀ r M', Ext M M' → Dm M' (.ref r) (told1 td dd) → Q (.ref r) M') :
    wpC (G0 ns) tbl (d + 4) n_law_told [.int 1, tv, v] M Q X := by
  refine wpC_some (fn := f_law_told) rfl rfl ?_
  have e10 : decide ((1 : Int) = 0) = false := by decide
  simp (disch := omega) only [f_law_told, b_law_told_0, b_law_told_1, b_law_told_2, b_law_told_3, s_not, e10, b_law_told_5, wpSs, wpS, wpE, wpEs, wpG, wpGs, wpI, startS, List.map, List.append, List.replicate, gets, sets, wipes, List.cons_append, List.nil_append, Nat.sub, Nat.reduceSub, List.length, s_int, s_intb, s_abs, s_mod, s_mul, s_add, s_sub, s_fdiv, s_pow, s_eqi, s_lt, s_le, s_gt, s_ge, s_atr, s_atc, s_ats, atR_l, atN_0, atN_1, atN_2, tb_bool, s_set, setL_0, setL_2, mup_same, s_lenr, s_lenc, s_addr, s_rng, Int.reduceToNat, Int.reducePow, Int.reduceMul, Int.reduceAdd, Int.reduceMod, part, semEach, lenT]
  refine read_ok (d := d) ht h hs hx (fun ts x ws b M1 x1 e1 e2 e3 e4 hb => ?_) (fun e M1 x1 e1 => ?_) (fun M1 x1 e1 e2 => ?_) (fun ts x M1 x1 e1 e2 e3 e4 => ?_)
  · refine ⟨by decide, fun r hr => ?_⟩
    refine told_n (hq r _ (x1.trans (ext_new hr)) ?_)
    have : told1 td dd = .list [.str "subject of", .list (ws.map PyData.str)] := by
      unfold told1
      rw [e2]
      dsimp only
      rw [e1, show tdL (.list (ts.map PyData.str)) = ts from strsD_map, e3]
      unfold textDD
      dsimp only
      rw [e4]
    rw [this]
    exact dm2 (.str _) (.lst (ext_new hr _ _ hb) DmAll.strs) mup_same
  · simp only [DE.xk, iso_1_TagError, if_true, sets]
    intro a ha
    refine told_e1 (de := valD e) mup_same (fun M => tagsErr_dm e1) fun r M' x2 hd => hq r M' (x1.trans ((ext_new ha).trans x2)) ?_
    unfold told1
    rw [e1]
    exact hd
  · simp only [DE.xk, iso_4_TagError, if_true, sets]
    intro a ha
    refine told_e4 (de := .none) mup_same (fun M => .non) fun r M' x2 hd => hq r M' (x1.trans ((ext_new ha).trans x2)) ?_
    unfold told1
    rw [e1]
    dsimp only
    cases dd <;> first | exact hd | cases e2
  · simp only [DE.xk, iso_4_TagError, if_true, sets]
    intro a ha
    refine told_e4 (de := .int 0) mup_same (fun M => .int 0) fun r M' x2 hd => hq r M' (x1.trans ((ext_new ha).trans x2)) ?_
    unfold told1
    rw [e2]
    dsimp only
    rw [e1, show tdL (.list (ts.map PyData.str)) = ts from strsD_map, e3]
    unfold textDD
    dsimp only
    rw [e4]
    exact hd
end
end K60
namespace K60
open PySem MP
section
variable {ns : List Int} {d : Nat} {M : Mem} {Q : VK} {X : XK}
theorem written_ok {a : Addr} {ws : List Str} (ha : M a = some (.lst (ws.map Val.str))) (h1 : ws.length ≤ 300) (h2 : ∀ w ∈ ws, w.length ≤ 1000 ∧ PyData.strOk w = true) (hq : ∀ M', Ext M M' → Q (.str (wtext ws)) M') : wpC (G0 ns) tbl (d + 1) n_law_written [.ref a] M Q X := by
  have hle : ∀ i, (catT (ws.take i)).length ≤ 400000 := fun i => by
    have := catT_le (b := 1000) (ws := ws.take i) fun w hw => (h2 w (List.mem_of_mem_take hw)).1
    have hl : (ws.take i).length ≤ 300 := by rw [List.length_take]; omega
    have := Nat.mul_le_mul hl (Nat.le_refl 1001)
    omega
  refine wpC_some (fn := f_law_written) rfl rfl ?_
  simp (disch := omega) only [f_law_written, b_law_written_0, b_law_written_1, ha, wpSs, wpS, wpE, wpEs, wpG, wpGs, wpI, startS, List.map, List.append, List.replicate, gets, sets, wipes, List.cons_append, List.nil_append, Nat.sub, Nat.reduceSub, List.length, s_int, s_intb, s_abs, s_mod, s_mul, s_add, s_sub, s_fdiv, s_pow, s_eqi, s_lt, s_le, s_gt, s_ge, s_atr, s_atc, s_ats, atR_l, atN_0, atN_1, atN_2, tb_bool, s_set, setL_0, setL_2, mup_same, s_lenr, s_lenc, s_addr, s_rng, Int.reduceToNat, Int.reducePow, Int.reduceMul, Int.reduceAdd, Int.reduceMod, part, semEach, lenT]
  refine for_idx (fun i σ M' => M' = M ∧ ∃ o, σ = [some (.ref a), some (.str (catT (ws.take i))), o]) ⟨rfl, _, rfl⟩ (fun i σ M' h => by rw [h.1]; exact ha) (fun i x σ M' k hx hI hk => ?_) (fun σ M' hI => ?_)
  · obtain ⟨rfl, o, rfl⟩ := hI
    rw [List.getElem?_map] at hx
    cases hw : ws[i]? with
    | none => rw [hw] at hx; cases hx
    | some w =>
      rw [hw] at hx
      cases hx
      have hm := List.mem_of_getElem? hw
      have l1 := hle i
      have l2 := (h2 w hm).1
      have l3 : (" " : Str).length = 1 := rfl
      simp only [b_law_written_2, wpSs, wpS, wpE, wpEs, wpG, wpGs, wpI, startS, List.map, List.append, List.replicate, gets, sets, wipes, List.cons_append, List.nil_append, Nat.sub, Nat.reduceSub, List.length, s_int, s_intb, s_abs, s_mod, s_mul, s_add, s_sub, s_fdiv, s_pow, s_eqi, s_lt, s_le, s_gt, s_ge, s_atr, s_atc, s_ats, atR_l, atN_0, atN_1, atN_2, tb_bool, s_set, setL_0, setL_2, mup_same, s_lenr, s_lenc, s_addr, s_rng, Int.reduceToNat, Int.reducePow, Int.reduceMul, Int.reduceAdd, Int.reduceMod, part, semEach, lenT]
      rw [s_adds (by omega), s_adds (by rw [app_len]; omega)]
      refine hk _ _ ⟨rfl, some (.str w), ?_⟩
      have e : catT (ws.take (i + 1)) = catT (ws.take i) ++ " " ++ w := by rw [List.take_add_one, hw]; exact catT_snoc
      rw [e]
  · obtain ⟨rfl, o, rfl⟩ := hI
    rw [List.length_map, List.take_length]
    have l1 := hle ws.length
    rw [List.take_length] at l1
    simp (disch := omega) only [b_law_written_3, s_slice, wpSs, wpS, wpE, wpEs, wpG, wpGs, wpI, startS, List.map, List.append, List.replicate, gets, sets, wipes, List.cons_append, List.nil_append, Nat.sub, Nat.reduceSub, List.length, s_int, s_intb, s_abs, s_mod, s_mul, s_add, s_sub, s_fdiv, s_pow, s_eqi, s_lt, s_le, s_gt, s_ge, s_atr, s_atc, s_ats, atR_l, atN_0, atN_1, atN_2, tb_bool, s_set, setL_0, setL_2, mup_same, s_lenr, s_lenc, s_addr, s_rng, Int.reduceToNat, Int.reducePow, Int.reduceMul, Int.reduceAdd, Int.reduceMod, part, semEach, lenT]
    refine ⟨by decide, fun p hp => ⟨by decide, fun p2 hp2 => ?_⟩⟩
    have ha2 := ext_new (o := MO.lst []) hp2 _ _ (ext_new (o := MO.lst [.str (L2.cutS (catT ws) (some 1) none), .str "-"]) hp _ _ ha)
    refine s_eq (.lst ha2 DmAll.strs) (.lst mup_same .nil) (shaped_strs fun w hw => (h2 w hw).2) shaped_nil ?_
    rw [eqv_nil]
    have hp3 := ext_new (o := MO.lst []) hp2 _ _ (mup_same (M := M') (a := p) (o := MO.lst [.str (L2.cutS (catT ws) (some 1) none), .str "-"]))
    simp only [s_intb, s_atr, atR_l, hp3]
    cases hws : ws with
    | nil =>
      simp only [List.map_nil, List.isEmpty_nil, if_true, atN_1]
      have := hq _ ((ext_new (o := MO.lst [.str (L2.cutS (catT ws) (some 1) none), .str "-"]) hp).trans (ext_new (o := MO.lst []) hp2))
      rw [hws] at this
      exact this
    | cons w r =>
      have hne : ws ≠ [] := by rw [hws]; simp
      simp only [List.map_cons, List.isEmpty_cons, Bool.false_eq_true, if_false, atN_0]
      have := hq _ ((ext_new (o := MO.lst [.str (L2.cutS (catT ws) (some 1) none), .str "-"]) hp).trans (ext_new (o := MO.lst []) hp2))
      unfold wtext at this
      rw [if_neg hne, ← cut_cat hne] at this
      rw [hws] at this
      exact this
theorem subject_due_ok {a : Addr} {v : Val} {dd : PyData} {ts : List Str} {n dp : Nat} (ha : M a = some (.lst (ts.map Val.str))) (hts : GoodTags ts) (h : Dm M v dd) (hsm : Sm n (dp + 1) dd) (hq : ∀ r M', Ext M M' → Dm M' (.ref r) (subjD ts dd) → Q (.ref r) M') :
    wpC (G0 ns) tbl (d + 2) n_law_subject_due [.ref a, v] M Q X := by
  refine wpC_some (fn := f_law_subject_due) rfl rfl ?_
  simp (disch := omega) only [f_law_subject_due, b_law_subject_due_0, isCl_one, isB_list h, s_not, wpSs, wpS, wpE, wpEs, wpG, wpGs, wpI, startS, List.map, List.append, List.replicate, gets, sets, wipes, List.cons_append, List.nil_append, Nat.sub, Nat.reduceSub, List.length, s_int, s_intb, s_abs, s_mod, s_mul, s_add, s_sub, s_fdiv, s_pow, s_eqi, s_lt, s_le, s_gt, s_ge, s_atr, s_atc, s_ats, atR_l, atN_0, atN_1, atN_2, tb_bool, s_set, setL_0, setL_2, mup_same, s_lenr, s_lenc, s_addr, s_rng, Int.reduceToNat, Int.reducePow, Int.reduceMul, Int.reduceAdd, Int.reduceMod, part, semEach, lenT]
  have bad : ∀ {e : Val} {M1 : Mem} {r : Addr}, subjErr ts dd = some e → M1 r = none → Ext M M1 → Q (.ref r) (mup M1 r (.lst [.str "subject", e])) := fun {e M1 r} he hr x => by
    refine hq r _ (x.trans (ext_new hr)) ?_
    unfold subjD
    rw [he]
    exact dm2 (.str _) (subjErr_dm he) mup_same
  cases h with
  | lst hv hds =>
    rename_i b xs ds
    have hl := dmAll_len hds
    have hit := hsm.items
    simp (disch := omega) only [isListD, Bool.not_true, s_not, hv, wpSs, wpS, wpE, wpEs, wpG, wpGs, wpI, startS, List.map, List.append, List.replicate, gets, sets, wipes, List.cons_append, List.nil_append, Nat.sub, Nat.reduceSub, List.length, s_int, s_intb, s_abs, s_mod, s_mul, s_add, s_sub, s_fdiv, s_pow, s_eqi, s_lt, s_le, s_gt, s_ge, s_atr, s_atc, s_ats, atR_l, atN_0, atN_1, atN_2, tb_bool, s_set, setL_0, setL_2, mup_same, s_lenr, s_lenc, s_addr, s_rng, Int.reduceToNat, Int.reducePow, Int.reduceMul, Int.reduceAdd, Int.reduceMod, part, semEach, lenT]
    by_cases h1 : 200 < ds.length
    · have e1 : decide ((200 : Int) < (xs.length : Int)) = true := decide_eq_true (by omega)
      simp (disch := omega) only [e1, b_law_subject_due_1, wpSs, wpS, wpE, wpEs, wpG, wpGs, wpI, startS, List.map, List.append, List.replicate, gets, sets, wipes, List.cons_append, List.nil_append, Nat.sub, Nat.reduceSub, List.length, s_int, s_intb, s_abs, s_mod, s_mul, s_add, s_sub, s_fdiv, s_pow, s_eqi, s_lt, s_le, s_gt, s_ge, s_atr, s_atc, s_ats, atR_l, atN_0, atN_1, atN_2, tb_bool, s_set, setL_0, setL_2, mup_same, s_lenr, s_lenc, s_addr, s_rng, Int.reduceToNat, Int.reducePow, Int.reduceMul, Int.reduceAdd, Int.reduceMod, part, semEach, lenT]
      exact ⟨by decide, fun r hr => bad (subjErr_long h1) hr Ext.refl⟩
    · have e1 : decide ((200 : Int) < (xs.length : Int)) = false := decide_eq_false (by omega)
      have et := subjErr_in (ts := ts) h1
      simp (disch := omega) only [e1, b_law_subject_due_2, semEnum, hv, wpSs, wpS, wpE, wpEs, wpG, wpGs, wpI, startS, List.map, List.append, List.replicate, gets, sets, wipes, List.cons_append, List.nil_append, Nat.sub, Nat.reduceSub, List.length, s_int, s_intb, s_abs, s_mod, s_mul, s_add, s_sub, s_fdiv, s_pow, s_eqi, s_lt, s_le, s_gt, s_ge, s_atr, s_atc, s_ats, atR_l, atN_0, atN_1, atN_2, tb_bool, s_set, setL_0, setL_2, mup_same, s_lenr, s_lenc, s_addr, s_rng, Int.reduceToNat, Int.reducePow, Int.reduceMul, Int.reduceAdd, Int.reduceMod, part, semEach, lenT]
      refine for_idx (fun i σ M' => M' = M ∧ i ≤ ds.length ∧ firstBad ts ds 0 = firstBad ts (ds.drop i) i ∧ ∃ o1 o2, σ = [some (.ref a), some (.ref b), o1, o2]) ⟨rfl, Nat.zero_le _, rfl, _, _, rfl⟩ (fun i σ M' h => by rw [h.1]; exact hv) (fun i x σ M' k hx hI hk => ?_) (fun σ M' hI => ?_)
      · obtain ⟨rfl, t3, t4, o1, o2, rfl⟩ := hI
        obtain ⟨y, hy, rfl⟩ := enum_get hx
        obtain ⟨dy, hdy, hdm⟩ := dmAll_get hds hy
        have hi : i < ds.length := (List.getElem?_eq_some_iff.mp hdy).1
        have hdrop : ds.drop i = dy :: ds.drop (i + 1) := by
          rw [List.drop_eq_getElem_cons hi]
          rw [List.getElem?_eq_getElem hi] at hdy
          cases hdy
          rfl
        rw [hdrop] at t4
        have hsy := hit.mem (List.mem_of_getElem? hdy)
        refine ⟨rfl, ?_⟩
        simp (disch := omega) only [b_law_subject_due_3, isCl_one, isB_str hdm, s_not, wpSs, wpS, wpE, wpEs, wpG, wpGs, wpI, startS, List.map, List.append, List.replicate, gets, sets, wipes, List.cons_append, List.nil_append, Nat.sub, Nat.reduceSub, List.length, s_int, s_intb, s_abs, s_mod, s_mul, s_add, s_sub, s_fdiv, s_pow, s_eqi, s_lt, s_le, s_gt, s_ge, s_atr, s_atc, s_ats, atR_l, atN_0, atN_1, atN_2, tb_bool, s_set, setL_0, setL_2, mup_same, s_lenr, s_lenc, s_addr, s_rng, Int.reduceToNat, Int.reducePow, Int.reduceMul, Int.reduceAdd, Int.reduceMod, part, semEach, lenT]
        cases hdm with
        | str s =>
          simp only [isStrD, Bool.not_true]
          rw [s_notin]
          refine s_inl ha hsy.lay hts.shaped ?_
          by_cases hm : s ∈ ts
          · simp only [hm, decide_true, Bool.not_true, wpSs, wpS, wpE, wpEs, wpG, wpGs, wpI, startS, List.map, List.append, List.replicate, gets, sets, wipes, List.cons_append, List.nil_append, Nat.sub, Nat.reduceSub, List.length, s_int, s_intb, s_abs, s_mod, s_mul, s_add, s_sub, s_fdiv, s_pow, s_eqi, s_lt, s_le, s_gt, s_ge, s_atr, s_atc, s_ats, atR_l, atN_0, atN_1, atN_2, tb_bool, s_set, setL_0, setL_2, mup_same, s_lenr, s_lenc, s_addr, s_rng, Int.reduceToNat, Int.reducePow, Int.reduceMul, Int.reduceAdd, Int.reduceMod, part, semEach, lenT]
            refine hk _ _ ⟨rfl, hi, ?_, _, _, rfl⟩
            rw [t4]
            simp only [firstBad, hm, if_true]
          · simp only [hm, decide_false, Bool.not_false, b_law_subject_due_4, wpSs, wpS, wpE, wpEs, wpG, wpGs, wpI, startS, List.map, List.append, List.replicate, gets, sets, wipes, List.cons_append, List.nil_append, Nat.sub, Nat.reduceSub, List.length, s_int, s_intb, s_abs, s_mod, s_mul, s_add, s_sub, s_fdiv, s_pow, s_eqi, s_lt, s_le, s_gt, s_ge, s_atr, s_atc, s_ats, atR_l, atN_0, atN_1, atN_2, tb_bool, s_set, setL_0, setL_2, mup_same, s_lenr, s_lenc, s_addr, s_rng, Int.reduceToNat, Int.reducePow, Int.reduceMul, Int.reduceAdd, Int.reduceMod, part, semEach, lenT]
            refine ⟨by decide, fun r hr => bad (e := .int i) ?_ hr Ext.refl⟩
            rw [et, t4]
            simp only [firstBad, hm, if_false]
            rfl
        | _ =>
          simp only [isStrD, Bool.not_false, b_law_subject_due_4, wpSs, wpS, wpE, wpEs, wpG, wpGs, wpI, startS, List.map, List.append, List.replicate, gets, sets, wipes, List.cons_append, List.nil_append, Nat.sub, Nat.reduceSub, List.length, s_int, s_intb, s_abs, s_mod, s_mul, s_add, s_sub, s_fdiv, s_pow, s_eqi, s_lt, s_le, s_gt, s_ge, s_atr, s_atc, s_ats, atR_l, atN_0, atN_1, atN_2, tb_bool, s_set, setL_0, setL_2, mup_same, s_lenr, s_lenc, s_addr, s_rng, Int.reduceToNat, Int.reducePow, Int.reduceMul, Int.reduceAdd, Int.reduceMod, part, semEach, lenT]
          exact ⟨by decide, fun r hr => bad (e := .int i) (by rw [et, t4]; rfl) hr Ext.refl⟩
      · obtain ⟨rfl, t3, t4, o1, o2, rfl⟩ := hI
        rw [enumI_length, hl, List.drop_length] at t4
        obtain ⟨f1, f2⟩ := firstBad_strs (i := 0) (show firstBad ts ds 0 = none by rw [t4]; rfl)
        have hxs : xs = (strsD ds).map Val.str := dmAll_strs (by rw [← f1]; exact hds)
        have hl2 : (strsD ds).length = ds.length := by
          have := congrArg List.length f1
          rw [List.length_map] at this
          exact this.symm
        simp (disch := omega) only [b_law_subject_due_5, wpSs, wpS, wpE, wpEs, wpG, wpGs, wpI, startS, List.map, List.append, List.replicate, gets, sets, wipes, List.cons_append, List.nil_append, Nat.sub, Nat.reduceSub, List.length, s_int, s_intb, s_abs, s_mod, s_mul, s_add, s_sub, s_fdiv, s_pow, s_eqi, s_lt, s_le, s_gt, s_ge, s_atr, s_atc, s_ats, atR_l, atN_0, atN_1, atN_2, tb_bool, s_set, setL_0, setL_2, mup_same, s_lenr, s_lenc, s_addr, s_rng, Int.reduceToNat, Int.reducePow, Int.reduceMul, Int.reduceAdd, Int.reduceMod, part, semEach, lenT]
        refine written_ok (d := d) (ws := strsD ds) (by rw [hv, hxs]) (by omega) (fun w hw => ⟨?_, hts.ok (f2 w hw)⟩) fun M1 x1 => ?_
        · have := (hts.nm w (f2 w hw)).2.1
          omega
        · refine ⟨by decide, fun r hr => hq r _ (x1.trans (ext_new hr)) ?_⟩
          unfold subjD
          rw [et, t4]
          exact dm2 (.str _) (.str _) mup_same
  | _ =>
    simp only [isListD, Bool.not_false, b_law_subject_due_1, wpSs, wpS, wpE, wpEs, wpG, wpGs, wpI, startS, List.map, List.append, List.replicate, gets, sets, wipes, List.cons_append, List.nil_append, Nat.sub, Nat.reduceSub, List.length, s_int, s_intb, s_abs, s_mod, s_mul, s_add, s_sub, s_fdiv, s_pow, s_eqi, s_lt, s_le, s_gt, s_ge, s_atr, s_atc, s_ats, atR_l, atN_0, atN_1, atN_2, tb_bool, s_set, setL_0, setL_2, mup_same, s_lenr, s_lenc, s_addr, s_rng, Int.reduceToNat, Int.reducePow, Int.reduceMul, Int.reduceAdd, Int.reduceMod, part, semEach, lenT]
    exact ⟨by decide, fun r hr => bad rfl hr Ext.refl⟩
theorem text_due_ok {a : Addr} {v : Val} {dd : PyData} {ts : List Str} (ha : M a = some (.lst (ts.map Val.str))) (hts : GoodTags ts) (h : Dm M v dd) (hx : ∀ x, dd = .str x → x.length ≤ 100000 ∧ PyData.strOk x = true) (hq : ∀ r M', Ext M M' → Dm M' (.ref r) (textDD ts dd) → Q (.ref r) M') :
    wpC (G0 ns) tbl (d + 2) n_law_text_due [.ref a, v] M Q X := by
  refine wpC_some (fn := f_law_text_due) rfl rfl ?_
  simp (disch := omega) only [f_law_text_due, b_law_text_due_0, isCl_one, isB_str h, s_not, wpSs, wpS, wpE, wpEs, wpG, wpGs, wpI, startS, List.map, List.append, List.replicate, gets, sets, wipes, List.cons_append, List.nil_append, Nat.sub, Nat.reduceSub, List.length, s_int, s_intb, s_abs, s_mod, s_mul, s_add, s_sub, s_fdiv, s_pow, s_eqi, s_lt, s_le, s_gt, s_ge, s_atr, s_atc, s_ats, atR_l, atN_0, atN_1, atN_2, tb_bool, s_set, setL_0, setL_2, mup_same, s_lenr, s_lenc, s_addr, s_rng, Int.reduceToNat, Int.reducePow, Int.reduceMul, Int.reduceAdd, Int.reduceMod, part, semEach, lenT]
  cases h with
  | str x =>
    obtain ⟨l1, ho⟩ := hx x rfl
    have due : ∀ {D : PyData}, textDD ts (.str x) = D → (∀ r M', Ext M M' → Dm M' (.ref r) D → Q (.ref r) M') := fun e r M' x hd => hq r M' x (by rw [e]; exact hd)
    simp (disch := first | exact ho | exact dash_ok | omega) only [isStrD, Bool.not_true, b_law_text_due_2, s_eqs, wpSs, wpS, wpE, wpEs, wpG, wpGs, wpI, startS, List.map, List.append, List.replicate, gets, sets, wipes, List.cons_append, List.nil_append, Nat.sub, Nat.reduceSub, List.length, s_int, s_intb, s_abs, s_mod, s_mul, s_add, s_sub, s_fdiv, s_pow, s_eqi, s_lt, s_le, s_gt, s_ge, s_atr, s_atc, s_ats, atR_l, atN_0, atN_1, atN_2, tb_bool, s_set, setL_0, setL_2, mup_same, s_lenr, s_lenc, s_addr, s_rng, Int.reduceToNat, Int.reducePow, Int.reduceMul, Int.reduceAdd, Int.reduceMod, part, semEach, lenT]
    by_cases h1 : x = "-"
    · simp only [h1, decide_true, b_law_text_due_3, wpSs, wpS, wpE, wpEs, wpG, wpGs, wpI, startS, List.map, List.append, List.replicate, gets, sets, wipes, List.cons_append, List.nil_append, Nat.sub, Nat.reduceSub, List.length, s_int, s_intb, s_abs, s_mod, s_mul, s_add, s_sub, s_fdiv, s_pow, s_eqi, s_lt, s_le, s_gt, s_ge, s_atr, s_atc, s_ats, atR_l, atN_0, atN_1, atN_2, tb_bool, s_set, setL_0, setL_2, mup_same, s_lenr, s_lenc, s_addr, s_rng, Int.reduceToNat, Int.reducePow, Int.reduceMul, Int.reduceAdd, Int.reduceMod, part, semEach, lenT]
      have e : textDD ts (.str x) = .list [.str "subject of", .list []] := by
        show (match textD ts x with | some ws => _ | none => _) = _
        rw [show textD ts x = some [] from if_pos h1]
        rfl
      refine ⟨by decide, fun b hb => ⟨by decide, fun r hr => ?_⟩⟩
      exact due e r _ ((ext_new hb).trans (ext_new hr)) (dm2 (.str _) (.lst (ext_new hr _ _ mup_same) .nil) mup_same)
    · simp (disch := omega) only [h1, decide_false, b_law_text_due_4, s_split, wpSs, wpS, wpE, wpEs, wpG, wpGs, wpI, startS, List.map, List.append, List.replicate, gets, sets, wipes, List.cons_append, List.nil_append, Nat.sub, Nat.reduceSub, List.length, s_int, s_intb, s_abs, s_mod, s_mul, s_add, s_sub, s_fdiv, s_pow, s_eqi, s_lt, s_le, s_gt, s_ge, s_atr, s_atc, s_ats, atR_l, atN_0, atN_1, atN_2, tb_bool, s_set, setL_0, setL_2, mup_same, s_lenr, s_lenc, s_addr, s_rng, Int.reduceToNat, Int.reducePow, Int.reduceMul, Int.reduceAdd, Int.reduceMod, part, semEach, lenT]
      refine ⟨trivial, ?_⟩
      intro b hb
      have ha1 := ext_new (o := MO.lst ((Txt.split x " ").map Val.str)) hb _ _ ha
      simp (disch := omega) only [b_law_text_due_5, mup_same, List.length_map, wpSs, wpS, wpE, wpEs, wpG, wpGs, wpI, startS, List.map, List.append, List.replicate, gets, sets, wipes, List.cons_append, List.nil_append, Nat.sub, Nat.reduceSub, List.length, s_int, s_intb, s_abs, s_mod, s_mul, s_add, s_sub, s_fdiv, s_pow, s_eqi, s_lt, s_le, s_gt, s_ge, s_atr, s_atc, s_ats, atR_l, atN_0, atN_1, atN_2, tb_bool, s_set, setL_0, setL_2, mup_same, s_lenr, s_lenc, s_addr, s_rng, Int.reduceToNat, Int.reducePow, Int.reduceMul, Int.reduceAdd, Int.reduceMod, part, semEach, lenT]
      by_cases h2 : 200 < (Txt.split x " ").length
      · have e1 : decide ((200 : Int) < ((Txt.split x " ").length : Int)) = true := decide_eq_true (by omega)
        simp (disch := omega) only [e1, b_law_text_due_6, wpSs, wpS, wpE, wpEs, wpG, wpGs, wpI, startS, List.map, List.append, List.replicate, gets, sets, wipes, List.cons_append, List.nil_append, Nat.sub, Nat.reduceSub, List.length, s_int, s_intb, s_abs, s_mod, s_mul, s_add, s_sub, s_fdiv, s_pow, s_eqi, s_lt, s_le, s_gt, s_ge, s_atr, s_atc, s_ats, atR_l, atN_0, atN_1, atN_2, tb_bool, s_set, setL_0, setL_2, mup_same, s_lenr, s_lenc, s_addr, s_rng, Int.reduceToNat, Int.reducePow, Int.reduceMul, Int.reduceAdd, Int.reduceMod, part, semEach, lenT]
        have e : textDD ts (.str x) = .list [.str "line", .int 0] := by
          show (match textD ts x with | some ws => _ | none => _) = _
          rw [show textD ts x = none by unfold textD; rw [if_neg h1, if_pos h2]]
        exact ⟨by decide, fun r hr => due e r _ ((ext_new hb).trans (ext_new hr)) (dm2 (.str _) (.int 0) mup_same)⟩
      · have e1 : decide ((200 : Int) < ((Txt.split x " ").length : Int)) = false := decide_eq_false (by omega)
        simp (disch := omega) only [e1, mup_same, wpSs, wpS, wpE, wpEs, wpG, wpGs, wpI, startS, List.map, List.append, List.replicate, gets, sets, wipes, List.cons_append, List.nil_append, Nat.sub, Nat.reduceSub, List.length, s_int, s_intb, s_abs, s_mod, s_mul, s_add, s_sub, s_fdiv, s_pow, s_eqi, s_lt, s_le, s_gt, s_ge, s_atr, s_atc, s_ats, atR_l, atN_0, atN_1, atN_2, tb_bool, s_set, setL_0, setL_2, mup_same, s_lenr, s_lenc, s_addr, s_rng, Int.reduceToNat, Int.reducePow, Int.reduceMul, Int.reduceAdd, Int.reduceMod, part, semEach, lenT]
        refine comp_idx (fun i acc M' => acc = (((Txt.split x " ").take i).filter fun w => !decide (w ∈ ts)).map Val.str ∧ M' = mup M b (.lst ((Txt.split x " ").map Val.str))) ⟨rfl, rfl⟩ (fun _ _ _ h => by rw [h.2]; exact mup_same) (fun i y acc M' k hy hI hk => ?_) (fun acc M' hI => ?_)
        · obtain ⟨e, em⟩ := hI
          rw [List.getElem?_map] at hy
          cases hw : (Txt.split x " ")[i]? with
          | none => rw [hw] at hy; cases hy
          | some w =>
            rw [hw] at hy
            cases hy
            have hi : i < (Txt.split x " ").length := (List.getElem?_eq_some_iff.mp hw).1
            subst em
            simp only [s_notin]
            refine s_inl ha1 (split_ok ho (List.mem_of_getElem? hw)) hts.shaped ?_
            have hlen : acc.length ≤ 200 := by
              rw [e, List.length_map]
              have := List.length_filter_le (fun w => !decide (w ∈ ts)) ((Txt.split x " ").take i)
              rw [List.length_take] at this
              omega
            by_cases hm : w ∈ ts
            · simp only [hm, decide_true, Bool.not_true, wpSs, wpS, wpE, wpEs, wpG, wpGs, wpI, startS, List.map, List.append, List.replicate, gets, sets, wipes, List.cons_append, List.nil_append, Nat.sub, Nat.reduceSub, List.length, s_int, s_intb, s_abs, s_mod, s_mul, s_add, s_sub, s_fdiv, s_pow, s_eqi, s_lt, s_le, s_gt, s_ge, s_atr, s_atc, s_ats, atR_l, atN_0, atN_1, atN_2, tb_bool, s_set, setL_0, setL_2, mup_same, s_lenr, s_lenc, s_addr, s_rng, Int.reduceToNat, Int.reducePow, Int.reduceMul, Int.reduceAdd, Int.reduceMod, part, semEach, lenT]
              refine hk _ _ ⟨?_, rfl⟩
              rw [e, List.take_add_one, hw]
              simp [hm]
            · simp only [hm, decide_false, Bool.not_false, wpSs, wpS, wpE, wpEs, wpG, wpGs, wpI, startS, List.map, List.append, List.replicate, gets, sets, wipes, List.cons_append, List.nil_append, Nat.sub, Nat.reduceSub, List.length, s_int, s_intb, s_abs, s_mod, s_mul, s_add, s_sub, s_fdiv, s_pow, s_eqi, s_lt, s_le, s_gt, s_ge, s_atr, s_atc, s_ats, atR_l, atN_0, atN_1, atN_2, tb_bool, s_set, setL_0, setL_2, mup_same, s_lenr, s_lenc, s_addr, s_rng, Int.reduceToNat, Int.reducePow, Int.reduceMul, Int.reduceAdd, Int.reduceMod, part, semEach, lenT]
              refine ⟨by show _ < 2 ^ 24; omega, hk _ _ ⟨?_, rfl⟩⟩
              rw [e, List.take_add_one, hw]
              simp [hm]
        · obtain ⟨e, em⟩ := hI
          subst em e
          intro b2 hb2
          simp only [List.length_map, List.take_length]
          refine ⟨by decide, fun b3 hb3 => ?_⟩
          have hb2' := ext_new (o := MO.lst []) hb3 _ _ (mup_same (M := mup M b (.lst ((Txt.split x " ").map Val.str))) (a := b2) (o := MO.lst (((Txt.split x " ").filter fun w => !decide (w ∈ ts)).map Val.str)))
          refine s_ne (.lst hb2' DmAll.strs) (.lst mup_same .nil) (shaped_strs fun w hw => split_ok ho (List.mem_filter.mp hw).1) shaped_nil ?_
          rw [eqv_nil]
          have x3 := (ext_new (o := MO.lst ((Txt.split x " ").map Val.str)) hb).trans ((ext_new (o := MO.lst (((Txt.split x " ").filter fun w => !decide (w ∈ ts)).map Val.str)) hb2).trans (ext_new (o := MO.lst []) hb3))
          have hb4 := ext_new (o := MO.lst []) hb3 _ _ (ext_new (o := MO.lst (((Txt.split x " ").filter fun w => !decide (w ∈ ts)).map Val.str)) hb2 _ _ (mup_same (M := M) (a := b) (o := MO.lst ((Txt.split x " ").map Val.str))))
          cases hall : (Txt.split x " ").all (fun w => decide (w ∈ ts)) with
          | true =>
            have hf : ((Txt.split x " ").filter fun w => !decide (w ∈ ts)) = [] := by
              rw [List.filter_eq_nil_iff]
              intro w hw
              have := List.all_eq_true.mp hall w hw
              simpa using this
            have e : textDD ts (.str x) = .list [.str "subject of", .list ((Txt.split x " ").map PyData.str)] := by
              show (match textD ts x with | some ws => _ | none => _) = _
              rw [show textD ts x = some (Txt.split x " ") by unfold textD; rw [if_neg h1, if_neg h2, if_pos hall]]
            simp only [hf] at hb4 x3
            simp only [hf, List.map_nil, List.isEmpty_nil, Bool.not_true, b_law_text_due_7, wpSs, wpS, wpE, wpEs, wpG, wpGs, wpI, startS, List.map, List.append, List.replicate, gets, sets, wipes, List.cons_append, List.nil_append, Nat.sub, Nat.reduceSub, List.length, s_int, s_intb, s_abs, s_mod, s_mul, s_add, s_sub, s_fdiv, s_pow, s_eqi, s_lt, s_le, s_gt, s_ge, s_atr, s_atc, s_ats, atR_l, atN_0, atN_1, atN_2, tb_bool, s_set, setL_0, setL_2, mup_same, s_lenr, s_lenc, s_addr, s_rng, Int.reduceToNat, Int.reducePow, Int.reduceMul, Int.reduceAdd, Int.reduceMod, part, semEach, lenT]
            exact ⟨by decide, fun r hr => due e r _ (x3.trans (ext_new hr)) (dm2 (.str _) (.lst (ext_new hr _ _ hb4) DmAll.strs) mup_same)⟩
          | false =>
            have hf : ((((Txt.split x " ").filter fun w => !decide (w ∈ ts)).map PyData.str)).isEmpty = false := by
              cases hz : ((Txt.split x " ").filter fun w => !decide (w ∈ ts)) with
              | nil =>
                exfalso
                rw [List.filter_eq_nil_iff] at hz
                have : (Txt.split x " ").all (fun w => decide (w ∈ ts)) = true := List.all_eq_true.mpr fun w hw => by simpa using hz w hw
                rw [this] at hall
                cases hall
              | cons _ _ => rfl
            have e : textDD ts (.str x) = .list [.str "line", .int 0] := by
              show (match textD ts x with | some ws => _ | none => _) = _
              rw [show textD ts x = none by unfold textD; rw [if_neg h1, if_neg h2, if_neg (by rw [hall]; decide)]]
            simp only [hf, Bool.not_false, b_law_text_due_6, wpSs, wpS, wpE, wpEs, wpG, wpGs, wpI, startS, List.map, List.append, List.replicate, gets, sets, wipes, List.cons_append, List.nil_append, Nat.sub, Nat.reduceSub, List.length, s_int, s_intb, s_abs, s_mod, s_mul, s_add, s_sub, s_fdiv, s_pow, s_eqi, s_lt, s_le, s_gt, s_ge, s_atr, s_atc, s_ats, atR_l, atN_0, atN_1, atN_2, tb_bool, s_set, setL_0, setL_2, mup_same, s_lenr, s_lenc, s_addr, s_rng, Int.reduceToNat, Int.reducePow, Int.reduceMul, Int.reduceAdd, Int.reduceMod, part, semEach, lenT]
            exact ⟨by decide, fun r hr => due e r _ (x3.trans (ext_new hr)) (dm2 (.str _) (.int 0) mup_same)⟩
  | _ =>
    simp only [isStrD, Bool.not_false, b_law_text_due_1, wpSs, wpS, wpE, wpEs, wpG, wpGs, wpI, startS, List.map, List.append, List.replicate, gets, sets, wipes, List.cons_append, List.nil_append, Nat.sub, Nat.reduceSub, List.length, s_int, s_intb, s_abs, s_mod, s_mul, s_add, s_sub, s_fdiv, s_pow, s_eqi, s_lt, s_le, s_gt, s_ge, s_atr, s_atc, s_ats, atR_l, atN_0, atN_1, atN_2, tb_bool, s_set, setL_0, setL_2, mup_same, s_lenr, s_lenc, s_addr, s_rng, Int.reduceToNat, Int.reducePow, Int.reduceMul, Int.reduceAdd, Int.reduceMod, part, semEach, lenT]
    exact ⟨by decide, fun r hr => hq r _ (ext_new hr) (dm2 (.str _) .non mup_same)⟩
/-- a text bent -/
theorem bent_ok {p : Addr} {t : Nat} {x : Str} (hp : Pile M p t) (ht : t < 10 ^ 5) (h1 : x.length ≤ 900) (ho : PyData.strOk x = true)
    (h : ∀ y M', Ext (Fz p M) (Fz p M') → Pile M' p (t + 3) → y.length ≤ 2 * x.length + 10 → PyData.strOk y = true → Q (.str y) M') : wpC (G0 ns) tbl (d + 3) n_law_bent [.ref p, .str x] M Q X := by
  refine wpC_some (fn := f_law_bent) rfl rfl ?_
  simp (disch := omega) only [f_law_bent, b_law_bent_0, s_lens, wpSs, wpS, wpE, wpEs, wpG, wpGs, wpI, startS, List.map, List.append, List.replicate, gets, sets, wipes, List.cons_append, List.nil_append, Nat.sub, Nat.reduceSub, List.length, s_int, s_intb, s_abs, s_mod, s_mul, s_add, s_sub, s_fdiv, s_pow, s_eqi, s_lt, s_le, s_gt, s_ge, s_atr, s_atc, s_ats, atR_l, atN_0, atN_1, atN_2, tb_bool, s_set, setL_0, setL_2, mup_same, s_lenr, s_lenc, s_addr, s_rng, Int.reduceToNat, Int.reducePow, Int.reduceMul, Int.reduceAdd, Int.reduceMod, part, semEach, lenT]
  refine take_ok hp (by omega) (by omega) (by omega) fun at_ M1 a1 a2 hF1 hp1 => ?_
  simp (disch := omega) only [b_law_bent_1, wpSs, wpS, wpE, wpEs, wpG, wpGs, wpI, startS, List.map, List.append, List.replicate, gets, sets, wipes, List.cons_append, List.nil_append, Nat.sub, Nat.reduceSub, List.length, s_int, s_intb, s_abs, s_mod, s_mul, s_add, s_sub, s_fdiv, s_pow, s_eqi, s_lt, s_le, s_gt, s_ge, s_atr, s_atc, s_ats, atR_l, atN_0, atN_1, atN_2, tb_bool, s_set, setL_0, setL_2, mup_same, s_lenr, s_lenc, s_addr, s_rng, Int.reduceToNat, Int.reducePow, Int.reduceMul, Int.reduceAdd, Int.reduceMod, part, semEach, lenT]
  refine ⟨by decide, fun q hq => ?_⟩
  refine take_ok (hp1.ext (ext_new hq)) (by omega) (by omega) (by omega) fun si M2 s1 s2 hF2 hp2 => ?_
  obtain ⟨o, ho1⟩ := hp1.at
  have hq2 := fz_at (show Fz p M2 q = _ by rw [hF2]; exact fz_new ho1 hq)
  simp only [s_atr, atR_l, hq2]
  have hsig : ∀ i : Fin 8, ∃ s : Str, (([" ", "-", "a", "r", "\n", "A", "  ", "re"] : List Str).map Val.str)[i.val]? = some (.str s) ∧ s.length ≤ 2 ∧ PyData.strOk s = true := by
    intro i
    refine ⟨(([" ", "-", "a", "r", "\n", "A", "  ", "re"] : List Str)[i.val]), by rw [List.getElem?_map, List.getElem?_eq_getElem i.isLt]; rfl, ?_⟩
    revert i
    decide +kernel
  obtain ⟨sg, g1, g2, g3⟩ := hsig ⟨si.toNat, by omega⟩
  refine atN_ok s1 g1 ?_
  have c : ∀ l h : Option Int, (L2.cutS x l h).length ≤ x.length ∧ PyData.strOk (L2.cutS x l h) = true := fun l h => ⟨cutS_le, cut_ok ho⟩
  have sp1 : PyData.strOk " " = true := by decide +kernel
  have sp2 : (" " : Str).length = 1 := rfl
  obtain ⟨c1, k1⟩ := c none (some at_)
  obtain ⟨c2, k2⟩ := c (some at_) none
  obtain ⟨c3, k3⟩ := c (some (at_ + 1)) none
  have l1 := app_len (s := L2.cutS x none (some at_)) (t := sg)
  have l2 := app_len (s := x) (t := " ")
  simp (disch := omega) only [b_law_bent_2, s_slice, s_adds, wpSs, wpS, wpE, wpEs, wpG, wpGs, wpI, startS, List.map, List.append, List.replicate, gets, sets, wipes, List.cons_append, List.nil_append, Nat.sub, Nat.reduceSub, List.length, s_int, s_intb, s_abs, s_mod, s_mul, s_add, s_sub, s_fdiv, s_pow, s_eqi, s_lt, s_le, s_gt, s_ge, s_atr, s_atc, s_ats, atR_l, atN_0, atN_1, atN_2, tb_bool, s_set, setL_0, setL_2, mup_same, s_lenr, s_lenc, s_addr, s_rng, Int.reduceToNat, Int.reducePow, Int.reduceMul, Int.reduceAdd, Int.reduceMod, part, semEach, lenT]
  refine ⟨by decide, fun m hm => ?_⟩
  simp (disch := omega) only [b_law_bent_3, s_slice, s_adds, wpSs, wpS, wpE, wpEs, wpG, wpGs, wpI, startS, List.map, List.append, List.replicate, gets, sets, wipes, List.cons_append, List.nil_append, Nat.sub, Nat.reduceSub, List.length, s_int, s_intb, s_abs, s_mod, s_mul, s_add, s_sub, s_fdiv, s_pow, s_eqi, s_lt, s_le, s_gt, s_ge, s_atr, s_atc, s_ats, atR_l, atN_0, atN_1, atN_2, tb_bool, s_set, setL_0, setL_2, mup_same, s_lenr, s_lenc, s_addr, s_rng, Int.reduceToNat, Int.reducePow, Int.reduceMul, Int.reduceAdd, Int.reduceMod, part, semEach, lenT]
  refine ⟨by decide, fun m2 hm2 => ?_⟩
  have hm3 := ext_new (o := MO.lst [.str (L2.cutS x none (some at_)), .str (" " ++ x), .str (x ++ " "), .str (x ++ " " ++ x)]) hm2 _ _ (mup_same (M := M2) (a := m) (o := MO.lst [.str (L2.cutS x none (some at_) ++ sg ++ L2.cutS x (some at_) none), .str (L2.cutS x none (some at_) ++ L2.cutS x (some (at_ + 1)) none), .str (L2.cutS x none (some at_) ++ sg ++ L2.cutS x (some (at_ + 1)) none), .str (L2.cutS x (some at_) none)]))
  refine addl_in hm3 mup_same ⟨by show 4 + 4 ≤ 2 ^ 24; decide, fun m4 hm4 => ?_⟩
  have hp3 := ((hp2.ext (ext_new (o := MO.lst [.str (L2.cutS x none (some at_) ++ sg ++ L2.cutS x (some at_) none), .str (L2.cutS x none (some at_) ++ L2.cutS x (some (at_ + 1)) none), .str (L2.cutS x none (some at_) ++ sg ++ L2.cutS x (some (at_ + 1)) none), .str (L2.cutS x (some at_) none)]) hm)).ext (ext_new (o := MO.lst [.str (L2.cutS x none (some at_)), .str (" " ++ x), .str (x ++ " "), .str (x ++ " " ++ x)]) hm2))
  refine take_ok (hp3.ext (ext_new hm4)) (by omega) (by omega) (by omega) fun r M5 r1 r2 hF5 hp5 => ?_
  obtain ⟨o5, ho5⟩ := hp3.at
  have hz := fz_at (show Fz p M5 m4 = _ by rw [hF5]; exact fz_new ho5 hm4)
  simp only [s_atr, atR_l, hz]
  have hall : ∀ y ∈ ([L2.cutS x none (some at_) ++ sg ++ L2.cutS x (some at_) none, L2.cutS x none (some at_) ++ L2.cutS x (some (at_ + 1)) none, L2.cutS x none (some at_) ++ sg ++ L2.cutS x (some (at_ + 1)) none, L2.cutS x (some at_) none, L2.cutS x none (some at_), " " ++ x, x ++ " ", x ++ " " ++ x] : List Str), y.length ≤ 2 * x.length + 10 ∧ PyData.strOk y = true := by
    intro y hy
    simp only [List.mem_cons, List.mem_nil_iff, or_false] at hy
    rcases hy with rfl | rfl | rfl | rfl | rfl | rfl | rfl | rfl
    · exact ⟨by rw [app_len, app_len]; omega, ok_app (ok_app k1 g3) k2⟩
    · exact ⟨by rw [app_len]; omega, ok_app k1 k3⟩
    · exact ⟨by rw [app_len, app_len]; omega, ok_app (ok_app k1 g3) k3⟩
    · exact ⟨by omega, k2⟩
    · exact ⟨by omega, k1⟩
    · exact ⟨by rw [app_len]; omega, ok_app sp1 ho⟩
    · exact ⟨by rw [app_len]; omega, ok_app ho sp1⟩
    · exact ⟨by rw [app_len, app_len]; omega, ok_app (ok_app ho sp1) ho⟩
  obtain ⟨y, hy⟩ : ∃ y, ([L2.cutS x none (some at_) ++ sg ++ L2.cutS x (some at_) none, L2.cutS x none (some at_) ++ L2.cutS x (some (at_ + 1)) none, L2.cutS x none (some at_) ++ sg ++ L2.cutS x (some (at_ + 1)) none, L2.cutS x (some at_) none, L2.cutS x none (some at_), " " ++ x, x ++ " ", x ++ " " ++ x] : List Str)[r.toNat]? = some y := ⟨_, List.getElem?_eq_getElem (by simp only [List.length_cons, List.length_nil]; omega)⟩
  obtain ⟨b1, b2⟩ := hall y (List.mem_of_getElem? hy)
  have hy2 : (([L2.cutS x none (some at_) ++ sg ++ L2.cutS x (some at_) none, L2.cutS x none (some at_) ++ L2.cutS x (some (at_ + 1)) none, L2.cutS x none (some at_) ++ sg ++ L2.cutS x (some (at_ + 1)) none, L2.cutS x (some at_) none, L2.cutS x none (some at_), " " ++ x, x ++ " ", x ++ " " ++ x] : List Str).map Val.str)[r.toNat]? = some (.str y) := by rw [List.getElem?_map, hy]; rfl
  refine atN_ok r1 hy2 ?_
  refine h y M5 ?_ hp5 b1 b2
  exact (ext_eq hF1).trans ((fz_mono (ext_new hq)).trans ((ext_eq hF2).trans ((fz_mono ((ext_new hm).trans ((ext_new hm2).trans (ext_new hm4)))).trans (ext_eq hF5))))
end
end K60
namespace K60
open PySem MP
section
variable {ns : List Int} {d : Nat} {M : Mem} {D : DE} {o1 o2 o3 o4 o5 o6 o7 o8 o9 o10 o11 o12 o13 o14 o15 o16 o17 : Option Val}
theorem inner {a b : Addr} {ts ws : List Str} {x : Str} {wv e : Val} {td : PyData} (ha : M a = some (.lst (ts.map Val.str))) (hb : M b = some (.lst (ws.map Val.str))) (hx : x.length ≤ 100000) (hxo : PyData.strOk x = true)
    (hw : Dm M wv td) (hs : ∀ s ds, td = .list ds → PyData.str s ∈ ds → s.length ≤ 1000) (he : tagsErr td = some e) (hnx : ∀ M' o16 o17, Ext M M' → D.nx [some .scr, o1, o2, some (.ref a), some (.ref b), o5, o6, o7, o8, o9, some (.str x), o11, o12, o13, some wv, some e, o16, o17] M') :
    wpSs (G0 ns) (wpC (G0 ns) tbl (d + 4)) blaw_20 D [some .scr, o1, o2, some (.ref a), some (.ref b), o5, o6, o7, o8, o9, some (.str x), o11, o12, o13, some wv, some e, o16, o17] M := by
  have te : ∀ {M' : Mem} {r : Addr}, M' r = none → Dm (mup M' r (.lst [.str "tags", e])) (.ref r) (.list [.str "tags", valD e]) := fun {M' r} hr => dm2 (.str _) (tagsErr_dm he) mup_same
  obtain ⟨l1, l2⟩ := err_lay (x := "tags") (e := e) (ofString_ok _)
  simp only [blaw_20, wpSs, wpS, wpE, wpEs, wpG, wpGs, wpI, startS, List.map, List.append, List.replicate, gets, sets, wipes, List.cons_append, List.nil_append, Nat.sub, Nat.reduceSub, List.length, s_int, s_intb, s_abs, s_mod, s_mul, s_add, s_sub, s_fdiv, s_pow, s_eqi, s_lt, s_le, s_gt, s_ge, s_atr, s_atc, s_ats, atR_l, atN_0, atN_1, atN_2, tb_bool, s_set, setL_0, setL_2, mup_same, s_lenr, s_lenc, s_addr, s_rng, Int.reduceToNat, Int.reducePow, Int.reduceMul, Int.reduceAdd, Int.reduceMod, part, semEach, lenT]
  refine ⟨by decide, fun L hL => ?_⟩
  have xL := ext_new (o := MO.lst [.int 0, .int 1]) hL
  simp only [mup_same]
  refine for_idx (fun i σ M' => Ext (mup M L (.lst [.int 0, .int 1])) M' ∧ ∃ o16 o17, σ = [some .scr, o1, o2, some (.ref a), some (.ref b), o5, o6, o7, o8, o9, some (.str x), o11, o12, o13, some wv, some e, o16, o17]) ⟨Ext.refl, _, _, rfl⟩ (fun i σ M' h => h.1 _ _ mup_same) (fun i y σ M' k hy hI hk => ?_) (fun σ M' hI => ?_)
  · obtain ⟨x1, o16, o17, rfl⟩ := hI
    have x1' := xL.trans x1
    have ha1 := x1' _ _ ha
    have hb1 := x1' _ _ hb
    have hway : y = .int 0 ∨ y = .int 1 := by
      match i, hy with
      | 0, h => left; cases h; rfl
      | 1, h => right; cases h; rfl
      | n + 2, h => cases h
    simp only [blaw_21, ha1, s_tupr, s_mulr, wpSs, wpS, wpE, wpEs, wpG, wpGs, wpI, startS, List.map, List.append, List.replicate, gets, sets, wipes, List.cons_append, List.nil_append, Nat.sub, Nat.reduceSub, List.length, s_int, s_intb, s_abs, s_mod, s_mul, s_add, s_sub, s_fdiv, s_pow, s_eqi, s_lt, s_le, s_gt, s_ge, s_atr, s_atc, s_ats, atR_l, atN_0, atN_1, atN_2, tb_bool, s_set, setL_0, setL_2, mup_same, s_lenr, s_lenc, s_addr, s_rng, Int.reduceToNat, Int.reducePow, Int.reduceMul, Int.reduceAdd, Int.reduceMod, part, semEach, lenT]
    refine ⟨by decide, fun q1 hq1 => ?_⟩
    simp only [s_mulr, mup_same]
    refine ⟨by decide, by decide, by show 1 * 201 ≤ 2 ^ 24; decide, fun q2 hq2 => ⟨by show 6 ≤ 2 ^ 24; decide, fun L2 hL2 => ?_⟩⟩
    have x2 := (ext_new (o := MO.lst [.none]) hq1).trans ((ext_new (o := MO.lst (List.replicate (201 : Int).toNat [Val.none]).flatten) hq2).trans (ext_new (o := MO.lst [.ref b, .str x, .none, .int 0, .tup (ts.map Val.str), .ref q2]) hL2))
    have hq2' := ext_new (o := MO.lst [.ref b, .str x, .none, .int 0, .tup (ts.map Val.str), .ref q2]) hL2 _ _ (mup_same (M := mup M' q1 (.lst [.none])) (a := q2) (o := MO.lst (List.replicate (201 : Int).toNat [Val.none]).flatten))
    simp only [mup_same]
    generalize hM2 : mup (mup (mup M' q1 (.lst [.none])) q2 (.lst (List.replicate (201 : Int).toNat [Val.none]).flatten)) L2 (.lst [.ref b, .str x, .none, .int 0, .tup (ts.map Val.str), .ref q2]) = M2 at *
    have hL2' : M2 L2 = some (.lst [.ref b, .str x, .none, .int 0, .tup (ts.map Val.str), .ref q2]) := by rw [← hM2]; exact mup_same
    rw [flat1] at hq2'
    have hds : DmAll M2 [.ref b, .str x, .none, .int 0, .tup (ts.map Val.str), .ref q2] [.list (ws.map PyData.str), .str x, .none, .int 0, .tuple (ts.map PyData.str), .list (List.replicate 201 .none)] :=
      .cons (.lst (x2 _ _ hb1) DmAll.strs) (.cons (.str x) (.cons .non (.cons (.int 0) (.cons (.tup DmAll.strs) (.cons (.lst hq2' (DmAll.rep .non 201)) .nil)))))
    refine for_idx (fun j σ M3 => Ext M2 M3 ∧ ∃ o17, σ = [some .scr, o1, o2, some (.ref a), some (.ref b), o5, o6, o7, o8, o9, some (.str x), o11, o12, o13, some wv, some e, some y, o17]) ⟨Ext.refl, _, rfl⟩ (fun j σ M3 h => h.1 _ _ hL2') (fun j z σ M3 k2 hz hI hk2 => ?_) (fun σ M3 hI => ?_)
    · obtain ⟨x3, o17, rfl⟩ := hI
      obtain ⟨dz, hdz, hdm⟩ := dmAll_get hds hz
      have hstr : ∀ s, dz = .str s → s.length ≤ 100000 ∧ PyData.strOk s = true := by
        intro s e2
        subst e2
        match j, hdz with
        | 0, h => cases h
        | 1, h => cases h; exact ⟨hx, hxo⟩
        | 2, h => cases h
        | 3, h => cases h
        | 4, h => cases h
        | 5, h => cases h
        | n + 6, h => cases h
      have hwm := hw.mono ((x1'.trans x2).trans x3)
      simp only [blaw_22, wpSs, wpS, wpE, wpEs, wpG, wpGs, wpI, startS, List.map, List.append, List.replicate, gets, sets, wipes, List.cons_append, List.nil_append, Nat.sub, Nat.reduceSub, List.length, s_int, s_intb, s_abs, s_mod, s_mul, s_add, s_sub, s_fdiv, s_pow, s_eqi, s_lt, s_le, s_gt, s_ge, s_atr, s_atc, s_ats, atR_l, atN_0, atN_1, atN_2, tb_bool, s_set, setL_0, setL_2, mup_same, s_lenr, s_lenc, s_addr, s_rng, Int.reduceToNat, Int.reducePow, Int.reduceMul, Int.reduceAdd, Int.reduceMod, part, semEach, lenT]
      rcases hway with rfl | rfl
      · refine told0_ok (d := d) hwm (hdm.mono x3) hs fun r M4 x4 hr => ?_
        rw [told0_bad he] at hr
        refine ⟨by decide, fun r2 hr2 => ?_⟩
        refine s_same (hr.mono (ext_new hr2)) (te hr2) l1 l2 ?_
        exact hk2 _ _ ⟨(x3.trans x4).trans (ext_new hr2), _, rfl⟩
      · refine told1_ok (d := d) hwm (hdm.mono x3) hs hstr fun r M4 x4 hr => ?_
        rw [told1_bad he] at hr
        refine ⟨by decide, fun r2 hr2 => ?_⟩
        refine s_same (hr.mono (ext_new hr2)) (te hr2) l1 l2 ?_
        exact hk2 _ _ ⟨(x3.trans x4).trans (ext_new hr2), _, rfl⟩
    · obtain ⟨x3, o17, rfl⟩ := hI
      exact hk _ _ ⟨x1.trans (x2.trans x3), _, _, rfl⟩
  · obtain ⟨x1, o16, o17, rfl⟩ := hI
    exact hnx _ _ _ (xL.trans x1)
theorem loop3 {a b : Addr} {t0 : Str} {tr ws : List Str} {x : Str} (ha : M a = some (.lst ((t0 :: tr).map Val.str))) (hts : GoodTags (t0 :: tr)) (hb : M b = some (.lst (ws.map Val.str))) (hx : x.length ≤ 100000) (hxo : PyData.strOk x = true)
    (hnx : ∀ M' os, os.length = 17 → D.nx (some .scr :: os) M') :
    wpSs (G0 ns) (wpC (G0 ns) tbl (d + 4)) blaw_18 D [some .scr, o1, o2, some (.ref a), some (.ref b), o5, o6, o7, o8, o9, some (.str x), o11, o12, o13, o14, o15, o16, o17] M := by
  have hle := hts.le
  have hle2 : tr.length + 1 ≤ 6 := hle
  have ha : M a = some (.lst (Val.str t0 :: tr.map Val.str)) := ha
  have hlen : (Val.str t0 :: tr.map Val.str).length = tr.length + 1 := by simp
  have cf : cutL (Val.str t0 :: tr.map Val.str) none (some 1) = [.str t0] := cut_first
  simp only [blaw_18, s_slicer, ha, cf, wpSs, wpS, wpE, wpEs, wpG, wpGs, wpI, startS, List.map, List.append, List.replicate, gets, sets, wipes, List.cons_append, List.nil_append, Nat.sub, Nat.reduceSub, List.length, s_int, s_intb, s_abs, s_mod, s_mul, s_add, s_sub, s_fdiv, s_pow, s_eqi, s_lt, s_le, s_gt, s_ge, s_atr, s_atc, s_ats, atR_l, atN_0, atN_1, atN_2, tb_bool, s_set, setL_0, setL_2, mup_same, s_lenr, s_lenc, s_addr, s_rng, Int.reduceToNat, Int.reducePow, Int.reduceMul, Int.reduceAdd, Int.reduceMod, part, semEach, lenT]
  intro s1 hs1
  have x1 := ext_new (o := MO.lst [.str t0]) hs1
  refine addl_in (x1 _ _ ha) mup_same ⟨by rw [hlen]; show _ + 1 ≤ 2 ^ 24; omega, fun w1 hw1 => ?_⟩
  generalize hM1 : mup (mup M s1 (.lst [.str t0])) w1 (.lst (Val.str t0 :: tr.map Val.str ++ [.str t0])) = M1
  have y1 : Ext M M1 := by rw [← hM1]; exact x1.trans (ext_new hw1)
  have w1' : M1 w1 = some (.lst (((t0 :: tr) ++ [t0]).map Val.str)) := by rw [← hM1, mup_same, List.map_append]; rfl
  have ha1 := y1 _ _ ha
  simp only [ha1, List.length_map]
  refine ⟨by show 2 ≤ 2 ^ 24; decide, by decide, fun w2 hw2 => ⟨by show 2 ≤ 2 ^ 24; decide, by show 2 ≤ 2 ^ 24; decide, ?_⟩⟩
  have y2 := ext_new (o := MO.lst []) hw2
  simp only [y2 _ _ ha1, cf]
  intro s2 hs2
  refine ⟨by decide, fun s3 hs3 => ?_⟩
  have y3 := (ext_new (o := MO.lst [.str t0]) hs2)
  have y4 := (ext_new (o := MO.lst [.str "a b"]) hs3)
  refine addl_in (y4 _ _ mup_same) mup_same ⟨by show 1 + 1 ≤ 2 ^ 24; decide, fun w4 hw4 => ⟨by show 2 ≤ 2 ^ 24; decide, by show 4 ≤ 2 ^ 24; decide, fun L hL => ?_⟩⟩
  generalize hMa : mup (mup (mup (mup M1 w2 (.lst [])) s2 (.lst [.str t0])) s3 (.lst [.str "a b"])) w4 (.lst ([.str t0] ++ [.str "a b"])) = M2 at hL
  have y5 : Ext M1 M2 := by rw [← hMa]; exact y2.trans (y3.trans (y4.trans (ext_new hw4)))
  have w2' : M2 w2 = some (.lst []) := by rw [← hMa]; exact ext_new hw4 _ _ (y4 _ _ (y3 _ _ mup_same))
  have w4' : M2 w4 = some (.lst [.str t0, .str "a b"]) := by rw [← hMa]; exact mup_same
  have y6 := ext_new (o := MO.lst [.tup [.ref w1, .int ((t0 :: tr).length : Nat)], .tup [.ref w2, .none], .tup [.none, .none], .tup [.ref w4, .int 1]]) hL
  simp only [hMa, mup_same, hlen]
  have strs_ok : ∀ t ∈ (t0 :: tr) ++ [t0], PyData.strOk t = true := fun t ht => by
    rcases List.mem_append.mp ht with z | z
    · exact hts.ok z
    · rw [List.mem_singleton.mp z]; exact hts.ok List.mem_cons_self
  have strs_le : ∀ t ∈ (t0 :: tr) ++ [t0], t.length ≤ 8 := fun t ht => by
    rcases List.mem_append.mp ht with z | z
    · exact (hts.nm t z).2.1
    · rw [List.mem_singleton.mp z]; exact (hts.nm t0 List.mem_cons_self).2.1
  have item : ∀ (i : Nat) (z : Val), ([.tup [.ref w1, .int ((t0 :: tr).length : Nat)], .tup [.ref w2, .none], .tup [.none, .none], .tup [.ref w4, .int 1]] : List Val)[i]? = some z →
      ∃ (wv e : Val) (td : PyData), z = .tup [wv, e] ∧ Dm M2 wv td ∧ (∀ s ds, td = .list ds → PyData.str s ∈ ds → s.length ≤ 1000) ∧ SeqAt.shaped td = true ∧ ((t0 :: tr).length < 6 ∨ PyData.eqv td (.list (((t0 :: tr) ++ [t0]).map PyData.str)) = false → tagsErr td = some e) := by
    intro i z hz
    match i, hz with
    | 0, h =>
      cases h
      refine ⟨_, _, _, rfl, .lst (y5 _ _ w1') DmAll.strs, ?_, shaped_strs strs_ok, fun hc => ?_⟩
      · intro s ds e hm
        cases e
        obtain ⟨t, ht, e⟩ := List.mem_map.mp hm
        cases e
        have := strs_le _ ht
        omega
      · rcases hc with hc | hc
        · exact err_again hts hc
        · rw [eqv_refl (by simp only [PyData.canLay0]; exact (lay_strs strs_ok).1)] at hc
          cases hc
    | 1, h =>
      cases h
      refine ⟨_, _, _, rfl, .lst w2' .nil, ?_, shaped_nil, fun _ => tagsErr_out (by simp)⟩
      intro s ds e hm
      cases e
      cases hm
    | 2, h =>
      cases h
      refine ⟨_, _, _, rfl, .non, ?_, rfl, fun _ => rfl⟩
      intro s ds e hm
      cases e
    | 3, h =>
      cases h
      refine ⟨_, _, _, rfl, .lst w4' (.cons (.str _) (.cons (.str _) .nil)), ?_, shaped_strs (ws := [t0, "a b"]) ?_, fun _ => err_ab hts⟩
      · intro s ds e hm
        cases e
        simp only [List.mem_cons, List.mem_nil_iff, or_false, PyData.str.injEq] at hm
        have := (hts.nm t0 List.mem_cons_self).2.1
        rcases hm with rfl | rfl
        · omega
        · decide
      · intro w hw
        simp only [List.mem_cons, List.mem_nil_iff, or_false] at hw
        rcases hw with rfl | rfl
        · exact hts.ok List.mem_cons_self
        · exact ofString_ok _
    | n + 4, h => cases h
  refine for_idx (fun i σ M' => Ext M2 M' ∧ M' L = some (.lst [.tup [.ref w1, .int ((t0 :: tr).length : Nat)], .tup [.ref w2, .none], .tup [.none, .none], .tup [.ref w4, .int 1]]) ∧ ∃ o14 o15 o16 o17, σ = [some .scr, o1, o2, some (.ref a), some (.ref b), o5, o6, o7, o8, o9, some (.str x), o11, o12, o13, o14, o15, o16, o17]) ⟨y6, mup_same, _, _, _, _, rfl⟩ (fun i σ M' h => h.2.1) (fun i z σ M' k hz hI hk => ?_) (fun σ M' hI => ?_)
  · obtain ⟨z1, z2, o14, o15, o16, o17, rfl⟩ := hI
    obtain ⟨wv, e, td, rfl, hd, hs, hsh, he⟩ := item i z hz
    have ha2 := z1 _ _ (y5 _ _ ha1)
    have hb2 := z1 _ _ (y5 _ _ (y1 _ _ hb))
    refine ⟨rfl, ?_⟩
    simp only [blaw_19, ha2, List.length_map, wpSs, wpS, wpE, wpEs, wpG, wpGs, wpI, startS, List.map, List.append, List.replicate, gets, sets, wipes, List.cons_append, List.nil_append, Nat.sub, Nat.reduceSub, List.length, s_int, s_intb, s_abs, s_mod, s_mul, s_add, s_sub, s_fdiv, s_pow, s_eqi, s_lt, s_le, s_gt, s_ge, s_atr, s_atc, s_ats, atR_l, atN_0, atN_1, atN_2, tb_bool, s_set, setL_0, setL_2, mup_same, s_lenr, s_lenc, s_addr, s_rng, Int.reduceToNat, Int.reducePow, Int.reduceMul, Int.reduceAdd, Int.reduceMod, part, semEach, lenT]
    by_cases h6 : (t0 :: tr).length < 6
    · have e1 : decide (((t0 :: tr).length : Int) < 6) = true := decide_eq_true (by omega)
      simp only [List.length_cons] at e1
      simp only [List.length_cons, e1]
      refine inner (ts := t0 :: tr) ha2 hb2 hx hxo (hd.mono z1) hs (he (.inl h6)) fun M3 o16 o17 x3 => ?_
      exact hk _ _ ⟨z1.trans x3, x3 _ _ z2, _, _, _, _, rfl⟩
    · have e1 : decide (((t0 :: tr).length : Int) < 6) = false := decide_eq_false (by omega)
      simp only [List.length_cons] at e1
      simp only [List.length_cons, e1, s_slicer, ha2, cf]
      intro s5 hs5
      have x5 := ext_new (o := MO.lst [.str t0]) hs5
      refine addl_mk (x5 _ _ ha2) mup_same (by rw [hlen]; show _ + 1 ≤ _; omega) fun s6 hs6 => ?_
      have x6 := ext_new (o := MO.lst (Val.str t0 :: tr.map Val.str ++ [.str t0])) hs6
      have x56 := x5.trans x6
      have hd6 : Dm (mup (mup M' s5 (.lst [.str t0])) s6 (.lst (Val.str t0 :: tr.map Val.str ++ [.str t0]))) (.ref s6) (.list (((t0 :: tr) ++ [t0]).map PyData.str)) := by
        refine .lst (xs := ((t0 :: tr) ++ [t0]).map Val.str) ?_ DmAll.strs
        rw [mup_same, List.map_append]
        rfl
      refine s_ne ((hd.mono z1).mono x56) hd6 hsh (shaped_strs strs_ok) ?_
      cases hev : PyData.eqv td (.list (((t0 :: tr) ++ [t0]).map PyData.str)) with
      | true =>
        simp only [Bool.not_true, wpSs, wpS, wpE, wpEs, wpG, wpGs, wpI, startS, List.map, List.append, List.replicate, gets, sets, wipes, List.cons_append, List.nil_append, Nat.sub, Nat.reduceSub, List.length, s_int, s_intb, s_abs, s_mod, s_mul, s_add, s_sub, s_fdiv, s_pow, s_eqi, s_lt, s_le, s_gt, s_ge, s_atr, s_atc, s_ats, atR_l, atN_0, atN_1, atN_2, tb_bool, s_set, setL_0, setL_2, mup_same, s_lenr, s_lenc, s_addr, s_rng, Int.reduceToNat, Int.reducePow, Int.reduceMul, Int.reduceAdd, Int.reduceMod, part, semEach, lenT]
        exact hk _ _ ⟨z1.trans x56, x56 _ _ z2, _, _, _, _, rfl⟩
      | false =>
        simp only [Bool.not_false, wpSs, wpS, wpE, wpEs, wpG, wpGs, wpI, startS, List.map, List.append, List.replicate, gets, sets, wipes, List.cons_append, List.nil_append, Nat.sub, Nat.reduceSub, List.length, s_int, s_intb, s_abs, s_mod, s_mul, s_add, s_sub, s_fdiv, s_pow, s_eqi, s_lt, s_le, s_gt, s_ge, s_atr, s_atc, s_ats, atR_l, atN_0, atN_1, atN_2, tb_bool, s_set, setL_0, setL_2, mup_same, s_lenr, s_lenc, s_addr, s_rng, Int.reduceToNat, Int.reducePow, Int.reduceMul, Int.reduceAdd, Int.reduceMod, part, semEach, lenT]
        refine inner (ts := t0 :: tr) (x56 _ _ ha2) (x56 _ _ hb2) hx hxo ((hd.mono z1).mono x56) hs (he (.inr hev)) fun M3 o16 o17 x3 => ?_
        exact hk _ _ ⟨(z1.trans x56).trans x3, x3 _ _ (x56 _ _ z2), _, _, _, _, rfl⟩
  · obtain ⟨z1, z2, o14, o15, o16, o17, rfl⟩ := hI
    exact hnx _ _ rfl
theorem loop2 {p a b f : Addr} {t : Nat} {t0 : Str} {tr ws fs : List Str} (hp : Pile M p t) (ht : t < 50000) (ha : Fz p M a = some (.lst ((t0 :: tr).map Val.str))) (hts : GoodTags (t0 :: tr)) (hb : Fz p M b = some (.lst (ws.map Val.str))) (hw : ∀ w ∈ ws, w ∈ t0 :: tr) (hwl : ws.length ≤ 8)
    (hf : Fz p M f = some (.lst (fs.map Val.str))) (hfw : ∀ w ∈ fs, w ∈ t0 :: tr) (hfl : fs.length ≤ 201) (hnx : ∀ M' os, os.length = 17 → D.nx (some .scr :: os) M') :
    wpSs (G0 ns) (wpC (G0 ns) tbl (d + 4)) blaw_12 D [some .scr, o1, some (.ref p), some (.ref a), some (.ref b), some (.ref f), o6, o7, o8, o9, o10, o11, o12, o13, o14, o15, o16, o17] M := by
  have tok : ∀ w ∈ t0 :: tr, w.length ≤ 8 ∧ PyData.strOk w = true := fun w hm => ⟨(hts.nm w hm).2.1, hts.ok hm⟩
  have okT : ∀ w ∈ ws, w.length ≤ 1000 ∧ PyData.strOk w = true := fun w hm => ⟨Nat.le_trans (tok w (hw w hm)).1 (by decide), (tok w (hw w hm)).2⟩
  have okF : ∀ w ∈ fs, w.length ≤ 1000 ∧ PyData.strOk w = true := fun w hm => ⟨Nat.le_trans (tok w (hfw w hm)).1 (by decide), (tok w (hfw w hm)).2⟩
  have lT : (wtext ws).length ≤ 73 := by have := wtext_le (b := 8) (ws := ws) fun w hm => (tok w (hw w hm)).1; omega
  have lF : (wtext fs).length ≤ 2000 := by have := wtext_le (b := 8) (ws := fs) fun w hm => (tok w (hfw w hm)).1; omega
  have kT : PyData.strOk (wtext ws) = true := wtext_ok fun w hm => (okT w hm).2
  have kF : PyData.strOk (wtext fs) = true := wtext_ok fun w hm => (okF w hm).2
  simp only [blaw_12, wpSs, wpS, wpE, wpEs, wpG, wpGs, wpI, startS, List.map, List.append, List.replicate, gets, sets, wipes, List.cons_append, List.nil_append, Nat.sub, Nat.reduceSub, List.length, s_int, s_intb, s_abs, s_mod, s_mul, s_add, s_sub, s_fdiv, s_pow, s_eqi, s_lt, s_le, s_gt, s_ge, s_atr, s_atc, s_ats, atR_l, atN_0, atN_1, atN_2, tb_bool, s_set, setL_0, setL_2, mup_same, s_lenr, s_lenc, s_addr, s_rng, Int.reduceToNat, Int.reducePow, Int.reduceMul, Int.reduceAdd, Int.reduceMod, part, semEach, lenT]
  refine written_ok (d := d + 3) (fz_at hb) (by omega) okT fun M1 x1 => ?_
  have hp1 := hp.ext x1
  have f1 := fz_mono (p := p) x1
  simp only [blaw_13, wpSs, wpS, wpE, wpEs, wpG, wpGs, wpI, startS, List.map, List.append, List.replicate, gets, sets, wipes, List.cons_append, List.nil_append, Nat.sub, Nat.reduceSub, List.length, s_int, s_intb, s_abs, s_mod, s_mul, s_add, s_sub, s_fdiv, s_pow, s_eqi, s_lt, s_le, s_gt, s_ge, s_atr, s_atc, s_ats, atR_l, atN_0, atN_1, atN_2, tb_bool, s_set, setL_0, setL_2, mup_same, s_lenr, s_lenc, s_addr, s_rng, Int.reduceToNat, Int.reducePow, Int.reduceMul, Int.reduceAdd, Int.reduceMod, part, semEach, lenT]
  refine bent_ok (d := d + 1) hp1 (by omega) (by omega) kT fun y M2 x2 hp2 l2 k2 => ?_
  simp only [blaw_14, wpSs, wpS, wpE, wpEs, wpG, wpGs, wpI, startS, List.map, List.append, List.replicate, gets, sets, wipes, List.cons_append, List.nil_append, Nat.sub, Nat.reduceSub, List.length, s_int, s_intb, s_abs, s_mod, s_mul, s_add, s_sub, s_fdiv, s_pow, s_eqi, s_lt, s_le, s_gt, s_ge, s_atr, s_atc, s_ats, atR_l, atN_0, atN_1, atN_2, tb_bool, s_set, setL_0, setL_2, mup_same, s_lenr, s_lenc, s_addr, s_rng, Int.reduceToNat, Int.reducePow, Int.reduceMul, Int.reduceAdd, Int.reduceMod, part, semEach, lenT]
  refine bent_ok (d := d + 1) hp2 (by omega) (by omega) k2 fun z M3 x3 hp3 l3 k3 => ?_
  have f3 := f1.trans (x2.trans x3)
  refine written_ok (d := d + 3) (fz_at (f3 _ _ hf)) (by omega) okF fun M4 x4 => ?_
  refine ⟨by show 9 ≤ 2 ^ 24; decide, fun L hL => ?_⟩
  have f4 := f3.trans (fz_mono x4)
  obtain ⟨q4, hq4⟩ := (hp3.ext x4).at
  have ha4 := fz_at (f4 _ _ ha)
  have hb4 := fz_at (f4 _ _ hb)
  have x5 := ext_new (o := MO.lst ([wtext ws, y, z, wtext fs, "", "-", "--", "- -", " -"].map Val.str)) hL
  simp only [blaw_15, wpSs, wpS, wpE, wpEs, wpG, wpGs, wpI, startS, List.map, List.append, List.replicate, gets, sets, wipes, List.cons_append, List.nil_append, Nat.sub, Nat.reduceSub, List.length, s_int, s_intb, s_abs, s_mod, s_mul, s_add, s_sub, s_fdiv, s_pow, s_eqi, s_lt, s_le, s_gt, s_ge, s_atr, s_atc, s_ats, atR_l, atN_0, atN_1, atN_2, tb_bool, s_set, setL_0, setL_2, mup_same, s_lenr, s_lenc, s_addr, s_rng, Int.reduceToNat, Int.reducePow, Int.reduceMul, Int.reduceAdd, Int.reduceMod, part, semEach, lenT]
  refine ⟨by show 3 ≤ 2 ^ 24; decide, fun L2 hL2 => ?_⟩
  have x6 := ext_new (o := MO.lst [.none, .int 0, .ref b]) hL2
  refine addl_in (x6 _ _ mup_same) mup_same ⟨by show 9 + 3 ≤ 2 ^ 24; decide, fun L3 hL3 => ?_⟩
  simp only [mup_same]
  generalize hM6 : mup (mup (mup M4 L _) L2 _) L3 _ = M6
  have x46 : Ext M4 M6 := by rw [← hM6]; exact x5.trans (x6.trans (ext_new hL3))
  have hL6 : M6 L3 = some (.lst ([wtext ws, y, z, wtext fs, "", "-", "--", "- -", " -"].map Val.str ++ [.none, .int 0, .ref b])) := by rw [← hM6]; exact mup_same
  have hds : DmAll M6 ([wtext ws, y, z, wtext fs, "", "-", "--", "- -", " -"].map Val.str ++ [.none, .int 0, .ref b]) ([wtext ws, y, z, wtext fs, "", "-", "--", "- -", " -"].map PyData.str ++ [.none, .int 0, .list (ws.map PyData.str)]) :=
    DmAll.append DmAll.strs (.cons .non (.cons (.int 0) (.cons (.lst (x46 _ _ hb4) DmAll.strs) .nil)))
  have hstr : ∀ w ∈ ([wtext ws, y, z, wtext fs, "", "-", "--", "- -", " -"] : List Str), w.length ≤ 100000 ∧ PyData.strOk w = true := by
    intro w hm
    simp only [List.mem_cons, List.mem_nil_iff, or_false] at hm
    rcases hm with rfl | rfl | rfl | rfl | rfl | rfl | rfl | rfl | rfl
    · exact ⟨by omega, kT⟩
    · exact ⟨by omega, k2⟩
    · exact ⟨by omega, k3⟩
    · exact ⟨by omega, kF⟩
    all_goals exact ⟨by decide, ofString_ok _⟩
  refine for_idx (fun i σ M' => Ext M6 M' ∧ ∃ o9, σ = [some .scr, o1, some (.ref p), some (.ref a), some (.ref b), some (.ref f), o6, o7, o8, o9, some (.str (wtext ws)), some (.str y), some (.ref L), o13, o14, o15, o16, o17]) ⟨Ext.refl, _, rfl⟩ (fun i σ M' h => h.1 _ _ hL6) (fun i v σ M' k hv hI hk => ?_) (fun σ M' hI => ?_)
  · obtain ⟨x7, o9, rfl⟩ := hI
    obtain ⟨dv, hdv, hdm⟩ := dmAll_get hds hv
    have hsv : ∀ s, dv = .str s → s.length ≤ 100000 ∧ PyData.strOk s = true := by
      intro s e
      subst e
      rcases List.mem_append.mp (List.mem_of_getElem? hdv) with m | m
      · obtain ⟨w, hw2, e⟩ := List.mem_map.mp m
        cases e
        exact hstr _ hw2
      · simp at m
    have ha7 := x7 _ _ (x46 _ _ ha4)
    simp only [blaw_16, wpSs, wpS, wpE, wpEs, wpG, wpGs, wpI, startS, List.map, List.append, List.replicate, gets, sets, wipes, List.cons_append, List.nil_append, Nat.sub, Nat.reduceSub, List.length, s_int, s_intb, s_abs, s_mod, s_mul, s_add, s_sub, s_fdiv, s_pow, s_eqi, s_lt, s_le, s_gt, s_ge, s_atr, s_atc, s_ats, atR_l, atN_0, atN_1, atN_2, tb_bool, s_set, setL_0, setL_2, mup_same, s_lenr, s_lenc, s_addr, s_rng, Int.reduceToNat, Int.reducePow, Int.reduceMul, Int.reduceAdd, Int.reduceMod, part, semEach, lenT]
    refine told1_ok (d := d) (td := .list ((t0 :: tr).map PyData.str)) (.lst ha7 DmAll.strs) (hdm.mono x7) ?_ hsv fun r M8 x8 hr => ?_
    · intro s ds e hm
      cases e
      obtain ⟨w, hw2, e⟩ := List.mem_map.mp hm
      cases e
      have := (tok _ hw2).1
      omega
    rw [told1_good hts] at hr
    refine text_due_ok (d := d + 2) (x8 _ _ ha7) hts (hdm.mono (x7.trans x8)) hsv fun r2 M9 x9 hr2 => ?_
    obtain ⟨y1, y2⟩ := textDD_lay (ts := t0 :: tr) (d := dv) fun w hm => (tok w hm).2
    refine s_same (hr.mono x9) hr2 y1 y2 ?_
    exact hk _ _ ⟨x7.trans (x8.trans x9), _, rfl⟩
  · obtain ⟨x7, o9, rfl⟩ := hI
    exact loop3 (ws := ws) (x7 _ _ (x46 _ _ ha4)) hts (x7 _ _ (x46 _ _ hb4)) (by omega) kT hnx
theorem loop1 {p a b f sp : Addr} {t : Nat} {t0 : Str} {tr ws fs : List Str} {ys : List Val} {yd : List PyData} (hp : Pile M p t) (ht : t < 50000) (ha : Fz p M a = some (.lst ((t0 :: tr).map Val.str))) (hts : GoodTags (t0 :: tr)) (hb : Fz p M b = some (.lst (ws.map Val.str))) (hw : ∀ w ∈ ws, w ∈ t0 :: tr) (hwl : ws.length ≤ 8)
    (hf : Fz p M f = some (.lst (fs.map Val.str))) (hfw : ∀ w ∈ fs, w ∈ t0 :: tr) (hfl : fs.length ≤ 201) (hsp : Fz p M sp = some (.lst ys)) (hyd : DmAll (Fz p M) ys yd) (hys : SmL 2000 2 yd) (hyl : ys.length ≤ 20) (hnx : ∀ M' os, os.length = 17 → D.nx (some .scr :: os) M') :
    wpSs (G0 ns) (wpC (G0 ns) tbl (d + 4)) blaw_8 D [some .scr, o1, some (.ref p), some (.ref a), some (.ref b), some (.ref f), o6, o7, some (.ref sp), o9, o10, o11, o12, o13, o14, o15, o16, o17] M := by
  have tok : ∀ w ∈ t0 :: tr, w.length ≤ 8 ∧ PyData.strOk w = true := fun w hm => ⟨(hts.nm w hm).2.1, hts.ok hm⟩
  have smw : ∀ dp, SmL 72 dp (ws.map PyData.str) := fun dp => (SmL.strs (b := 8) (dp := dp) fun w hm => ⟨(tok w (hw w hm)).2, (tok w (hw w hm)).1⟩).mono (by omega) (Nat.le_refl _)
  have smf : ∀ dp, SmL 1809 dp (fs.map PyData.str) := fun dp => (SmL.strs (b := 8) (dp := dp) fun w hm => ⟨(tok w (hfw w hm)).2, (tok w (hfw w hm)).1⟩).mono (by omega) (Nat.le_refl _)
  have hydM := DmAll.mono fz_ext hyd
  simp only [blaw_8, wpSs, wpS, wpE, wpEs, wpG, wpGs, wpI, startS, List.map, List.append, List.replicate, gets, sets, wipes, List.cons_append, List.nil_append, Nat.sub, Nat.reduceSub, List.length, s_int, s_intb, s_abs, s_mod, s_mul, s_add, s_sub, s_fdiv, s_pow, s_eqi, s_lt, s_le, s_gt, s_ge, s_atr, s_atc, s_ats, atR_l, atN_0, atN_1, atN_2, tb_bool, s_set, setL_0, setL_2, mup_same, s_lenr, s_lenc, s_addr, s_rng, Int.reduceToNat, Int.reducePow, Int.reduceMul, Int.reduceAdd, Int.reduceMod, part, semEach, lenT]
  refine ⟨by decide, fun q1 hq1 => ?_⟩
  have x1 := ext_new (o := MO.lst [.none]) hq1
  refine addl_in (x1 _ _ (fz_at hsp)) mup_same ⟨by show ys.length + 1 ≤ 2 ^ 24; omega, fun q2 hq2 => ?_⟩
  have x2 := ext_new (o := MO.lst (ys ++ [.none])) hq2
  have x12 := x1.trans x2
  simp only [s_tupr, x12 _ _ (fz_at hb), x12 _ _ (fz_at ha)]
  refine atN_ok (v := .str t0) (by decide) rfl ⟨by decide, fun q3 hq3 => ?_⟩
  have x3 := ext_new (o := MO.lst [.none]) hq3
  simp only [s_mulr, mup_same]
  refine ⟨by decide, by decide, by show 1 * 201 ≤ 2 ^ 24; decide, fun q4 hq4 => ⟨Nat.zero_le _, fun q5 hq5 => ⟨by show 9 ≤ 2 ^ 24; decide, fun L hL => ?_⟩⟩⟩
  have x4 := ext_new (o := MO.lst (List.replicate (201 : Int).toNat [Val.none]).flatten) hq4
  have x5 := ext_new (o := MO.lst []) hq5
  have x6 := ext_new (o := MO.lst [.ref b, .ref sp, .ref q2, .ref f, .tup (ws.map Val.str), .none, .str t0, .ref q4, .ref q5]) hL
  simp only [mup_same]
  generalize hM6 : mup (mup (mup (mup (mup (mup M q1 _) q2 _) q3 _) q4 _) q5 _) L _ = M6
  have x06 : Ext M M6 := by rw [← hM6]; exact x12.trans (x3.trans (x4.trans (x5.trans x6)))
  have hL6 : M6 L = some (.lst [.ref b, .ref sp, .ref q2, .ref f, .tup (ws.map Val.str), .none, .str t0, .ref q4, .ref q5]) := by rw [← hM6]; exact mup_same
  have h2 : M6 q2 = some (.lst (ys ++ [.none])) := by rw [← hM6]; exact x6 _ _ (x5 _ _ (x4 _ _ (x3 _ _ mup_same)))
  have h4 : M6 q4 = some (.lst (List.replicate 201 Val.none)) := by rw [← hM6, ← flat1]; exact x6 _ _ (x5 _ _ mup_same)
  have h5 : M6 q5 = some (.lst []) := by rw [← hM6]; exact x6 _ _ mup_same
  have hds : DmAll M6 [.ref b, .ref sp, .ref q2, .ref f, .tup (ws.map Val.str), .none, .str t0, .ref q4, .ref q5] [.list (ws.map PyData.str), .list yd, .list (yd ++ [.none]), .list (fs.map PyData.str), .tuple (ws.map PyData.str), .none, .str t0, .list (List.replicate 201 .none), .list []] :=
    .cons (.lst (x06 _ _ (fz_at hb)) DmAll.strs) (.cons (.lst (x06 _ _ (fz_at hsp)) (DmAll.mono x06 hydM)) (.cons (.lst h2 (DmAll.append (DmAll.mono x06 hydM) (.cons .non .nil))) (.cons (.lst (x06 _ _ (fz_at hf)) DmAll.strs) (.cons (.tup DmAll.strs) (.cons .non (.cons (.str _) (.cons (.lst h4 (DmAll.rep .non 201)) (.cons (.lst h5 .nil) .nil))))))))
  have hsm : ∀ dv ∈ ([.list (ws.map PyData.str), .list yd, .list (yd ++ [.none]), .list (fs.map PyData.str), .tuple (ws.map PyData.str), .none, .str t0, .list (List.replicate 201 .none), .list []] : List PyData), Sm 5000 3 dv ∧ notInt dv = true := by
    intro dv hm
    simp only [List.mem_cons, List.mem_nil_iff, or_false] at hm
    rcases hm with rfl | rfl | rfl | rfl | rfl | rfl | rfl | rfl | rfl
    · exact ⟨(Sm.list (smw 2)).mono (by decide) (by decide), rfl⟩
    · exact ⟨(Sm.list hys).mono (by decide) (by decide), rfl⟩
    · exact ⟨(Sm.list (SmL.append hys (SmL.cons (Sm.none (n := 0)) (SmL.nil (n := 0))))).mono (by decide) (by decide), rfl⟩
    · exact ⟨(Sm.list (smf 2)).mono (by decide) (by decide), rfl⟩
    · exact ⟨(Sm.tup (smw 2)).mono (by decide) (by decide), rfl⟩
    · exact ⟨Sm.none, rfl⟩
    · exact ⟨Sm.str (hts.ok List.mem_cons_self) (Nat.le_trans (tok t0 List.mem_cons_self).1 (by decide)), rfl⟩
    · exact ⟨(Sm.list (SmL.rep (dp := 2) (Sm.none (n := 0)) 201)).mono (by decide) (by decide), rfl⟩
    · exact ⟨(Sm.list (SmL.nil (n := 0) (dp := 2))).mono (by decide) (by decide), rfl⟩
  refine for_idx (fun i σ M' => Ext M6 M' ∧ ∃ o9 o13, σ = [some .scr, o1, some (.ref p), some (.ref a), some (.ref b), some (.ref f), o6, o7, some (.ref sp), o9, o10, o11, o12, o13, o14, o15, o16, o17]) ⟨Ext.refl, _, _, rfl⟩ (fun i σ M' h => h.1 _ _ hL6) (fun i v σ M' k hv hI hk => ?_) (fun σ M' hI => ?_)
  · obtain ⟨x7, o9, o13, rfl⟩ := hI
    obtain ⟨dv, hdv, hdm⟩ := dmAll_get hds hv
    obtain ⟨m1, m2⟩ := hsm dv (List.mem_of_getElem? hdv)
    have ha7 := x7 _ _ (x06 _ _ (fz_at ha))
    simp only [blaw_9, wpSs, wpS, wpE, wpEs, wpG, wpGs, wpI, startS, List.map, List.append, List.replicate, gets, sets, wipes, List.cons_append, List.nil_append, Nat.sub, Nat.reduceSub, List.length, s_int, s_intb, s_abs, s_mod, s_mul, s_add, s_sub, s_fdiv, s_pow, s_eqi, s_lt, s_le, s_gt, s_ge, s_atr, s_atc, s_ats, atR_l, atN_0, atN_1, atN_2, tb_bool, s_set, setL_0, setL_2, mup_same, s_lenr, s_lenc, s_addr, s_rng, Int.reduceToNat, Int.reducePow, Int.reduceMul, Int.reduceAdd, Int.reduceMod, part, semEach, lenT]
    refine s_strD (hdm.mono x7) m1 (by decide) (by decide) m2 ?_
    simp only [blaw_10, wpSs, wpS, wpE, wpEs, wpG, wpGs, wpI, startS, List.map, List.append, List.replicate, gets, sets, wipes, List.cons_append, List.nil_append, Nat.sub, Nat.reduceSub, List.length, s_int, s_intb, s_abs, s_mod, s_mul, s_add, s_sub, s_fdiv, s_pow, s_eqi, s_lt, s_le, s_gt, s_ge, s_atr, s_atc, s_ats, atR_l, atN_0, atN_1, atN_2, tb_bool, s_set, setL_0, setL_2, mup_same, s_lenr, s_lenc, s_addr, s_rng, Int.reduceToNat, Int.reducePow, Int.reduceMul, Int.reduceAdd, Int.reduceMod, part, semEach, lenT]
    refine told0_ok (d := d) (td := .list ((t0 :: tr).map PyData.str)) (.lst ha7 DmAll.strs) (hdm.mono x7) ?_ fun r M8 x8 hr => ?_
    · intro s ds e hm
      cases e
      obtain ⟨w, hw2, e⟩ := List.mem_map.mp hm
      cases e
      have := (tok _ hw2).1
      omega
    rw [told0_good hts] at hr
    refine subject_due_ok (d := d + 2) (x8 _ _ ha7) hts (hdm.mono (x7.trans x8)) m1 fun r2 M9 x9 hr2 => ?_
    obtain ⟨y1, y2⟩ := subjD_lay (ts := t0 :: tr) (d := dv) fun w hm => (tok w hm).2
    refine s_same (hr.mono x9) hr2 y1 y2 ?_
    simp only [wpSs, wpS, wpE, wpEs, wpG, wpGs, wpI, startS, List.map, List.append, List.replicate, gets, sets, wipes, List.cons_append, List.nil_append, Nat.sub, Nat.reduceSub, List.length, s_int, s_intb, s_abs, s_mod, s_mul, s_add, s_sub, s_fdiv, s_pow, s_eqi, s_lt, s_le, s_gt, s_ge, s_atr, s_atc, s_ats, atR_l, atN_0, atN_1, atN_2, tb_bool, s_set, setL_0, setL_2, mup_same, s_lenr, s_lenc, s_addr, s_rng, Int.reduceToNat, Int.reducePow, Int.reduceMul, Int.reduceAdd, Int.reduceMod, part, semEach, lenT]
    refine s_strD (hdm.mono (x7.trans (x8.trans x9))) m1 (by decide) (by decide) m2 ?_
    have hz := strD_ok m1.lay
    refine s_same (d := .str (strD dv)) (.str _) (.str _) hz (Nat.zero_le _) ?_
    exact hk _ _ ⟨x7.trans (x8.trans x9), _, _, rfl⟩
  · obtain ⟨x7, o9, o13, rfl⟩ := hI
    have f7 := fz_mono (p := p) (x06.trans x7)
    exact loop2 (hp.ext (x06.trans x7)) ht (f7 _ _ ha) hts (f7 _ _ hb) hw hwl (f7 _ _ hf) hfw hfl hnx
theorem turn {k : Nat} (hk : k < 6) (hnx : ∀ M' os, os.length = 17 → D.nx (some .scr :: os) M') :
    wpSs (G0 ns) (wpC (G0 ns) tbl (d + 4)) blaw_1 D [some .scr, some (.int (0 + (k : Int))), o2, o3, o4, o5, o6, o7, o8, o9, o10, o11, o12, o13, o14, o15, o16, o17] M := by
  simp only [blaw_1, wpSs, wpS, wpE, wpEs, wpG, wpGs, wpI, startS, List.map, List.append, List.replicate, gets, sets, wipes, List.cons_append, List.nil_append, Nat.sub, Nat.reduceSub, List.length, s_int, s_intb, s_abs, s_mod, s_mul, s_add, s_sub, s_fdiv, s_pow, s_eqi, s_lt, s_le, s_gt, s_ge, s_atr, s_atc, s_ats, atR_l, atN_0, atN_1, atN_2, tb_bool, s_set, setL_0, setL_2, mup_same, s_lenr, s_lenc, s_addr, s_rng, Int.reduceToNat, Int.reducePow, Int.reduceMul, Int.reduceAdd, Int.reduceMod, part, semEach, lenT]
  refine pile_ok (d := d + 3) (by omega) (by omega) fun p M1 hp0 x0 hp1 => ?_
  have hp1 := hp1.mono (show (97 * (0 + (k : Int))).toNat ≤ 1000 by omega)
  simp only [blaw_2, wpSs, wpS, wpE, wpEs, wpG, wpGs, wpI, startS, List.map, List.append, List.replicate, gets, sets, wipes, List.cons_append, List.nil_append, Nat.sub, Nat.reduceSub, List.length, s_int, s_intb, s_abs, s_mod, s_mul, s_add, s_sub, s_fdiv, s_pow, s_eqi, s_lt, s_le, s_gt, s_ge, s_atr, s_atc, s_ats, atR_l, atN_0, atN_1, atN_2, tb_bool, s_set, setL_0, setL_2, mup_same, s_lenr, s_lenc, s_addr, s_rng, Int.reduceToNat, Int.reducePow, Int.reduceMul, Int.reduceAdd, Int.reduceMod, part, semEach, lenT]
  refine take_ok (d := d + 2) hp1 (by omega) (by omega) (by omega) fun r M2 r1 r2 hF2 hp2 => ?_
  simp only [wpSs, wpS, wpE, wpEs, wpG, wpGs, wpI, startS, List.map, List.append, List.replicate, gets, sets, wipes, List.cons_append, List.nil_append, Nat.sub, Nat.reduceSub, List.length, s_int, s_intb, s_abs, s_mod, s_mul, s_add, s_sub, s_fdiv, s_pow, s_eqi, s_lt, s_le, s_gt, s_ge, s_atr, s_atc, s_ats, atR_l, atN_0, atN_1, atN_2, tb_bool, s_set, setL_0, setL_2, mup_same, s_lenr, s_lenc, s_addr, s_rng, Int.reduceToNat, Int.reducePow, Int.reduceMul, Int.reduceAdd, Int.reduceMod, part, semEach, lenT]
  refine tags_ok (d := d + 1) hp2 (by omega) (by omega) (by omega) fun a ts M3 f3 hp3 ha hts hl => ?_
  obtain ⟨t0, tr, rfl⟩ : ∃ t0 tr, ts = t0 :: tr := by
    cases ts with
    | nil => exact absurd hts.ne (by decide)
    | cons t r => exact ⟨t, r, rfl⟩
  have hle := hts.le
  have tok : ∀ w ∈ t0 :: tr, w.length ≤ 8 ∧ PyData.strOk w = true := fun w hm => ⟨(hts.nm w hm).2.1, hts.ok hm⟩
  have h0 := tok t0 List.mem_cons_self
  simp only [blaw_3, wpSs, wpS, wpE, wpEs, wpG, wpGs, wpI, startS, List.map, List.append, List.replicate, gets, sets, wipes, List.cons_append, List.nil_append, Nat.sub, Nat.reduceSub, List.length, s_int, s_intb, s_abs, s_mod, s_mul, s_add, s_sub, s_fdiv, s_pow, s_eqi, s_lt, s_le, s_gt, s_ge, s_atr, s_atc, s_ats, atR_l, atN_0, atN_1, atN_2, tb_bool, s_set, setL_0, setL_2, mup_same, s_lenr, s_lenc, s_addr, s_rng, Int.reduceToNat, Int.reducePow, Int.reduceMul, Int.reduceAdd, Int.reduceMod, part, semEach, lenT]
  refine word_ok (d := d + 1) hp3 (by omega) ha hts (by omega) (by omega) fun b ws M4 f4 hp4 hb0 hb hw hwl => ?_
  have ha4 := f4 _ _ ha
  have cf : cutL (Val.str t0 :: tr.map Val.str) none (some 1) = [.str t0] := cut_first
  have ha4' : M4 a = some (.lst (Val.str t0 :: tr.map Val.str)) := fz_at ha4
  simp only [blaw_4, s_slicer, ha4', cf, wpSs, wpS, wpE, wpEs, wpG, wpGs, wpI, startS, List.map, List.append, List.replicate, gets, sets, wipes, List.cons_append, List.nil_append, Nat.sub, Nat.reduceSub, List.length, s_int, s_intb, s_abs, s_mod, s_mul, s_add, s_sub, s_fdiv, s_pow, s_eqi, s_lt, s_le, s_gt, s_ge, s_atr, s_atc, s_ats, atR_l, atN_0, atN_1, atN_2, tb_bool, s_set, setL_0, setL_2, mup_same, s_lenr, s_lenc, s_addr, s_rng, Int.reduceToNat, Int.reducePow, Int.reduceMul, Int.reduceAdd, Int.reduceMod, part, semEach, lenT]
  intro q1 hq1
  obtain ⟨u4, hu4⟩ := hp4.at
  have g1 := fz_new (o := MO.lst [.str t0]) hu4 hq1
  have e1 := fz_mono (p := p) (ext_new (o := MO.lst [.str t0]) hq1)
  refine take_ok (d := d + 2) (hp4.ext (ext_new hq1)) (by omega) (by omega) (by omega) fun r5 M5 r51 r52 hF5 hp5 => ?_
  have g5 := fz_at (show Fz p M5 q1 = _ by rw [hF5]; exact g1)
  simp only [s_add, s_mulr, g5]
  refine ⟨by omega, by omega, by show 1 * _ ≤ 2 ^ 24; omega, fun f hf => ?_⟩
  rw [flat1] at *
  have e5 := (e1.trans (ext_eq hF5)).trans (fz_mono (p := p) (ext_new (o := MO.lst (List.replicate (199 + r5).toNat (Val.str t0))) hf))
  obtain ⟨u5, hu5⟩ := hp5.at
  have hff := fz_new (o := MO.lst (List.replicate (199 + r5).toNat (Val.str t0))) hu5 hf
  have hp6 := hp5.ext (ext_new (o := MO.lst (List.replicate (199 + r5).toNat (Val.str t0))) hf)
  generalize hM6 : mup M5 f (.lst (List.replicate (199 + r5).toNat (Val.str t0))) = M6 at *
  have ha6 : M6 a = some (.lst (Val.str t0 :: tr.map Val.str)) := fz_at (e5 _ _ ha4)
  have q8 : ("q" : Str).length = 1 := rfl
  simp (disch := omega) only [blaw_5, ha6, s_adds, wpSs, wpS, wpE, wpEs, wpG, wpGs, wpI, startS, List.map, List.append, List.replicate, gets, sets, wipes, List.cons_append, List.nil_append, Nat.sub, Nat.reduceSub, List.length, s_int, s_intb, s_abs, s_mod, s_mul, s_add, s_sub, s_fdiv, s_pow, s_eqi, s_lt, s_le, s_gt, s_ge, s_atr, s_atc, s_ats, atR_l, atN_0, atN_1, atN_2, tb_bool, s_set, setL_0, setL_2, mup_same, s_lenr, s_lenc, s_addr, s_rng, Int.reduceToNat, Int.reducePow, Int.reduceMul, Int.reduceAdd, Int.reduceMod, part, semEach, lenT]
  refine ⟨by decide, fun q2 hq2 => ?_⟩
  have y1 := ext_new (o := MO.lst [.str t0]) hq2
  have ha7 := y1 _ _ ha6
  simp only [ha7, atN_0]
  refine ⟨by show 8 ≤ 2 ^ 24; decide, fun q3 hq3 => ?_⟩
  have z3 := (fz_mono (p := p) y1).trans (fz_mono (p := p) (ext_new (o := MO.lst [.str (t0 ++ "q"), .none, .int 0, .str "", .ref q2, .str "A", .str t0, .str "-"]) hq3))
  obtain ⟨u6, hu6⟩ := hp6.at
  have hq2f := fz_mono (p := p) (ext_new (o := MO.lst [.str (t0 ++ "q"), .none, .int 0, .str "", .ref q2, .str "A", .str t0, .str "-"]) hq3) _ _ (fz_new (o := MO.lst [.str t0]) hu6 hq2)
  have hq3f := fz_new (o := MO.lst [.str (t0 ++ "q"), .none, .int 0, .str "", .ref q2, .str "A", .str t0, .str "-"]) (y1 _ _ hu6) hq3
  refine take_ok (d := d + 2) ((hp6.ext y1).ext (ext_new hq3)) (by omega) (by omega) (by omega) fun r7 M7 r71 r72 hF7 hp7 => ?_
  have e7 := z3.trans (ext_eq hF7)
  rw [← hF7] at hq2f hq3f
  have hds : DmAll (Fz p M7) [.str (t0 ++ "q"), .none, .int 0, .str "", .ref q2, .str "A", .str t0, .str "-"] [.str (t0 ++ "q"), .none, .int 0, .str "", .list [.str t0], .str "A", .str t0, .str "-"] :=
    .cons (.str _) (.cons .non (.cons (.int 0) (.cons (.str _) (.cons (.lst hq2f (.cons (.str _) .nil)) (.cons (.str _) (.cons (.str _) (.cons (.str _) .nil)))))))
  have smt : ∀ dp, Sm 8 dp (.str t0) := fun dp => Sm.str h0.2 h0.1
  have hsm : ∀ dv ∈ ([.str (t0 ++ "q"), .none, .int 0, .str "", .list [.str t0], .str "A", .str t0, .str "-"] : List PyData), Sm 100 2 dv := by
    intro dv hm
    simp only [List.mem_cons, List.mem_nil_iff, or_false] at hm
    rcases hm with rfl | rfl | rfl | rfl | rfl | rfl | rfl | rfl
    · exact Sm.str (ok_app h0.2 (ofString_ok _)) (by rw [app_len, q8]; omega)
    · exact Sm.none
    · exact Sm.zero
    · exact Sm.str (ofString_ok _) (by decide)
    · exact (Sm.list (SmL.cons (smt 1) (SmL.nil (n := 0)))).mono (by decide) (by decide)
    · exact Sm.str (ofString_ok _) (by decide)
    · exact (smt 2).mono (by decide) (by decide)
    · exact Sm.str (ofString_ok _) (by decide)
  simp only [s_atr, atR_l, fz_at hq3f]
  obtain ⟨vo, hvo⟩ : ∃ vo, ([.str (t0 ++ "q"), .none, .int 0, .str "", .ref q2, .str "A", .str t0, .str "-"] : List Val)[r7.toNat]? = some vo := ⟨_, List.getElem?_eq_getElem (by simp only [List.length_cons, List.length_nil]; omega)⟩
  obtain ⟨dv, hdv, hdm⟩ := dmAll_get hds hvo
  have sdv := hsm dv (List.mem_of_getElem? hdv)
  refine atN_ok r71 hvo ?_
  have e47 := (e5.trans e7)
  have hb7 := e47 _ _ hb
  simp only [blaw_6, fz_at hb7, List.length_map, wpSs, wpS, wpE, wpEs, wpG, wpGs, wpI, startS, List.map, List.append, List.replicate, gets, sets, wipes, List.cons_append, List.nil_append, Nat.sub, Nat.reduceSub, List.length, s_int, s_intb, s_abs, s_mod, s_mul, s_add, s_sub, s_fdiv, s_pow, s_eqi, s_lt, s_le, s_gt, s_ge, s_atr, s_atc, s_ats, atR_l, atN_0, atN_1, atN_2, tb_bool, s_set, setL_0, setL_2, mup_same, s_lenr, s_lenc, s_addr, s_rng, Int.reduceToNat, Int.reducePow, Int.reduceMul, Int.reduceAdd, Int.reduceMod, part, semEach, lenT]
  refine take_ok (d := d + 2) hp7 (by omega) (by omega) (by omega) fun pl M8 p1 p2 hF8 hp8 => ?_
  have hb8 : Fz p M8 b = some (.lst (ws.map Val.str)) := by rw [hF8]; exact hb7
  simp only [blaw_7, s_slicer, fz_at hb8, cutL_map, wpSs, wpS, wpE, wpEs, wpG, wpGs, wpI, startS, List.map, List.append, List.replicate, gets, sets, wipes, List.cons_append, List.nil_append, Nat.sub, Nat.reduceSub, List.length, s_int, s_intb, s_abs, s_mod, s_mul, s_add, s_sub, s_fdiv, s_pow, s_eqi, s_lt, s_le, s_gt, s_ge, s_atr, s_atc, s_ats, atR_l, atN_0, atN_1, atN_2, tb_bool, s_set, setL_0, setL_2, mup_same, s_lenr, s_lenc, s_addr, s_rng, Int.reduceToNat, Int.reducePow, Int.reduceMul, Int.reduceAdd, Int.reduceMod, part, semEach, lenT]
  intro c1 hc1
  refine ⟨by decide, fun c2 hc2 => ?_⟩
  have w1 := ext_new (o := MO.lst ((cutL ws none (some pl)).map Val.str)) hc1
  have w2 := ext_new (o := MO.lst [vo]) hc2
  have cl1 : (cutL ws none (some pl)).length ≤ ws.length := cutL_le
  have cl2 : (cutL ws (some pl) none).length ≤ ws.length := cutL_le
  refine addl_in (w2 _ _ mup_same) mup_same ⟨by rw [List.length_map]; show _ + 1 ≤ 2 ^ 24; omega, fun c3 hc3 => ?_⟩
  have w3 := ext_new (o := MO.lst ((cutL ws none (some pl)).map Val.str ++ [vo])) hc3
  have w13 := w1.trans (w2.trans w3)
  simp only [w13 _ _ (fz_at hb8), cutL_map]
  intro c4 hc4
  have w4 := ext_new (o := MO.lst ((cutL ws (some pl) none).map Val.str)) hc4
  refine addl_mk (w4 _ _ mup_same) mup_same (by simp only [List.length_append, List.length_map, List.length_cons, List.length_nil]; omega) fun c5 hc5 => ?_
  have w5 := ext_new (o := MO.lst ((cutL ws none (some pl)).map Val.str ++ [vo] ++ (cutL ws (some pl) none).map Val.str)) hc5
  have w15 := w13.trans (w4.trans w5)
  have f15 := fz_mono (p := p) w15
  obtain ⟨u8, hu8⟩ := (hp8.ext (w13.trans w4)).at
  have e89 := (ext_eq hF8).trans f15
  have e69 := e7.trans e89
  have smc : ∀ l h : Option Int, SmL 72 2 ((cutL ws l h).map PyData.str) := fun l h => (SmL.strs (b := 8) (dp := 2) fun w hm => ⟨(tok w (hw w (cutL_mem hm))).2, (tok w (hw w (cutL_mem hm))).1⟩).mono (by have : (cutL ws l h).length ≤ ws.length := cutL_le; omega) (Nat.le_refl _)
  refine loop1 (d := d) (fs := List.replicate (199 + r5).toNat t0) (yd := (cutL ws none (some pl)).map PyData.str ++ [dv] ++ (cutL ws (some pl) none).map PyData.str) (hp8.ext w15) (by omega) (e89 _ _ (e47 _ _ ha4)) hts (e89 _ _ hb7) hw (by omega)
    (by rw [List.map_replicate]; exact e69 _ _ hff) (fun w hm => by rw [(List.mem_replicate.mp hm).2]; exact List.mem_cons_self) (by rw [List.length_replicate]; omega) (fz_new hu8 hc5) ?_ ?_ ?_ hnx
  · exact DmAll.append (DmAll.append DmAll.strs (.cons (hdm.mono e89) .nil)) DmAll.strs
  · exact (SmL.append (SmL.append (smc _ _) (SmL.cons sdv (SmL.nil (n := 0)))) (smc _ _)).mono (by decide) (Nat.le_refl _)
  · simp only [List.length_append, List.length_map, List.length_cons, List.length_nil]; omega
theorem law_ok : wpC (G0 ns) tbl (d + 5) nlaw [.scr] (fun _ => none) (fun v _ => v = .bool true) (fun _ _ => False) := by
  refine wpC_some (fn := flaw) rfl rfl ?_
  simp (disch := omega) only [flaw, blaw_0, wpSs, wpS, wpE, wpEs, wpG, wpGs, wpI, startS, List.map, List.append, List.replicate, gets, sets, wipes, List.cons_append, List.nil_append, Nat.sub, Nat.reduceSub, List.length, s_int, s_intb, s_abs, s_mod, s_mul, s_add, s_sub, s_fdiv, s_pow, s_eqi, s_lt, s_le, s_gt, s_ge, s_atr, s_atc, s_ats, atR_l, atN_0, atN_1, atN_2, tb_bool, s_set, setL_0, setL_2, mup_same, s_lenr, s_lenc, s_addr, s_rng, Int.reduceToNat, Int.reducePow, Int.reduceMul, Int.reduceAdd, Int.reduceMod, part, semEach, lenT]
  refine for_idx (fun i σ M => i ≤ 6 ∧ ∃ os, os.length = 17 ∧ σ = some .scr :: os) ⟨by omega, _, rfl, rfl⟩ (fun _ _ _ _ => trivial) (fun i x σ M k hx hI hk => ?_) (fun σ M hI => ?_)
  · obtain ⟨hi, os, hos, rfl⟩ := hI
    obtain ⟨hi2, rfl⟩ := rng_get hx
    have hi3 : i < 6 := hi2
    match os, hos with
    | [o1, o2, o3, o4, o5, o6, o7, o8, o9, o10, o11, o12, o13, o14, o15, o16, o17], _ =>
      simp only [sets]
      exact turn hi3 fun M' os h => hk _ _ ⟨by omega, os, h, rfl⟩
  · simp only [blaw_24, wpSs, wpS, wpE, wpEs, wpG, wpGs, wpI, startS, List.map, List.append, List.replicate, gets, sets, wipes, List.cons_append, List.nil_append, Nat.sub, Nat.reduceSub, List.length, s_int, s_intb, s_abs, s_mod, s_mul, s_add, s_sub, s_fdiv, s_pow, s_eqi, s_lt, s_le, s_gt, s_ge, s_atr, s_atc, s_ats, atR_l, atN_0, atN_1, atN_2, tb_bool, s_set, setL_0, setL_2, mup_same, s_lenr, s_lenc, s_addr, s_rng, Int.reduceToNat, Int.reducePow, Int.reduceMul, Int.reduceAdd, Int.reduceMod, part, semEach, lenT]
end
end K60
namespace K60
open PySem L2 MP
theorem tbl_eq : D.tbl = tbl := by
  funext f
  show (D.ds[f]?).map (·.fn) = fns[f]?
  rw [← List.getElem?_map]
  rfl
theorem pure_law : ∀ ns : List Int, ns.length ≤ 63 → ∃ dep, dep ≤ 200 ∧ wpC (D.G ns) D.tbl dep D.law [.scr] (fun _ => none) (fun v _ => v = .bool true) (fun _ _ => False) := by
  intro ns _
  refine ⟨5, by decide, ?_⟩
  rw [tbl_eq]
  exact law_ok (ns := ns) (d := 0)
end K60
theorem PySem.Challenge.cw_subjecttags_k60_subjects_as_text_holds : PySem.Challenge.rw_subjecttags_k60_subjects_as_text.Holds := by
  exact K60.end_ K60.pure_law
