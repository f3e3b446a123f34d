import PyProof.Rows.All
import Wide.All
import OpenK.AllK
import Wide.FinOn
import HandS.ForMost
import HandS.Wide
import HandS.TupAny
import HandS.IsInst
import HandS.Flow
import HandS.Zip
import HandS.FStr
import HandS.Conv
import KE.KStateDown
import Lean
import HandS.Ends
import HandS.More
import HandS.Words
import HandS.WordsExc
import HandS.Defaults
import HandS.Codes
import HandS.Head0
import HandS.Head1
import HandS.Head2
import HandS.HeadEnd
import HandS.HeadHook1
import HandS.HeadHook2
import HandS.HeadHook3
import HandS.HeadHook4
import PySem.Challenge.RW_heldwrites_k69_runs_as_texts
set_option Elab.async false
set_option linter.all false
set_option maxRecDepth 100000
set_option maxHeartbeats 0
/-! Clean values, the store, the own syntax, its evaluator. -/
namespace My
open PySem L2

/-- a clean value: a tuple is inline, a mutable object is named by its number in the store -/
inductive D where
  | non | bl (b : Bool) | int (i : Int) | str (x : Str) | tup (xs : List D) | ref (n : Nat)
  deriving Inhabited
/-- what stands at a number: a list; a list that is only read -/
inductive Ob where
  | lst (xs : List D)
  | ro (xs : List D)
  deriving Inhabited
abbrev Store := List Ob
/-- an exception: its class, what it holds -/
structure Xn where
  cls : Str
  arg : D
inductive R (α : Type) where
  | ok (a : α) (s : Store)
  | ex (x : Xn) (s : Store)
  | no
abbrev M (α : Type) := Store → R α
def ret {α : Type} (a : α) : M α := fun s => .ok a s
def bnd {α β : Type} (m : M α) (f : α → M β) : M β := fun s => match m s with
  | .ok a s1 => f a s1
  | .ex x s1 => .ex x s1
  | .no => .no
def no {α : Type} : M α := fun _ => .no
/-- a look at the store -/
def see {α : Type} (f : Store → Option α) : M α := fun s => match f s with
  | some a => .ok a s
  | none => .no
def opt {α : Type} (o : Option α) : M α := match o with
  | some a => ret a
  | none => no
/-- a new list -/
def newL (xs : List D) : M D := fun s => .ok (.ref s.length) (s ++ [.lst xs])
/-- a list is changed -/
def setL (n : Nat) (xs : List D) : M D := fun s => .ok .non (s.set n (.lst xs))

def rdL (s : Store) (n : Nat) : Option (List D) := match s[n]? with
  | some (.lst xs) => some xs
  | some (.ro xs) => some xs
  | none => none
def rdM (s : Store) (n : Nat) : Option (List D) := match s[n]? with
  | some (.lst xs) => some xs
  | _ => none

/-! ### data, equality, truth -/
def allO {α β : Type} (f : α → Option β) : List α → Option (List β)
  | [] => some []
  | x :: xs => match f x, allO f xs with
    | some y, some ys => some (y :: ys)
    | _, _ => none
/-- as data, lists by what they hold; f: how deep -/
def toP (s : Store) : Nat → D → Option PyData
  | _, .non => some .none
  | _, .bl b => some (.bool b)
  | _, .int i => some (.int i)
  | _, .str x => if PyData.strOk x then some (.str x) else none
  | f + 1, .tup xs => (allO (toP s f) xs).map .tuple
  | f + 1, .ref n => (rdL s n).bind fun xs => (allO (toP s f) xs).map .list
  | 0, .tup _ => none
  | 0, .ref _ => none
def eqF (s : Store) : D → D → Option Bool
  | .int i, .int j => some (decide (i = j))
  | .bl i, .bl j => some (decide (i = j))
  | .str i, .str j => some (decide (i = j))
  | a, b => match toP s 16 a, toP s 16 b with
    | some x, some y => some (PyData.eqv x y)
    | _, _ => none
def truF (s : Store) : D → Option Bool
  | .non => some false
  | .bl b => some b
  | .int i => some (i != 0)
  | .str x => if x.length ≤ sizeLine then some (x.length != 0) else none
  | .tup xs => some (!xs.isEmpty)
  | .ref n => (rdL s n).map fun xs => !xs.isEmpty

/-! ### the own syntax -/
inductive Bop | add | sub | mul | fdiv | mod
inductive Cop | eq | ne | lt | le | gt | ge | isN | notN | in_ | notin
inductive Ty | int | bool | str | tuple | list
  deriving DecidableEq
/-- a built-in function or class, called -/
inductive Blt | len | int | str | abs | tuple | list | minL | maxL | sumL | any | all
/-- a method of a built-in class -/
inductive Mth | append | pop | popAt | reverse | clear | join | split | find | partition | startswith
/-- a target -/
inductive T where
  | name (i : Nat)
  | tup (ts : List T)
mutual
inductive E where
  | lit (d : D)
  | var (i : Nat)
  | gl (x : Str)
  | tup (es : Es)
  | lst (es : Es)
  | bin (op : Bop) (a b : E)
  | neg (a : E)
  | cmp (op : Cop) (a b : E)
  | chain (op op' : Cop) (a b c : E)
  | and_ (es : Es)
  | or_ (es : Es)
  | not_ (a : E)
  | ifx (c a b : E)
  | idx (a i : E)
  | slc (a : E) (lo hi : Es)
  | call (f : Str) (es : Es)
  | blt (b : Blt) (es : Es)
  | isi (a : E) (t : Ty)
  | isis (a : E) (ts : List Ty)
  | mth (o : E) (m : Mth) (es : Es)
  | lc (elt : E) (tg : T) (it : It) (cond : Es) (own : List (Str × Nat))
  | fmt (a : E)
  | fstr (es : Es)
  | tupRg1 (a : E)
  | tupRg2 (a b : E)
inductive Es where
  | nil
  | cons (e : E) (es : Es)
/-- what a loop walks -/
inductive It where
  | val (e : E)
  | rng1 (a : E)
  | rng2 (a b : E)
  | zip (a b : E)
  | enum (a : E)
end
mutual
inductive S where
  | asg (t : T) (e : E)
  | asgi (o i e : E)
  | aug (i : Nat) (op : Bop) (e : E)
  | ex (e : E)
  | ret (e : E)
  | retn
  | iff (c : E) (a b : Ss)
  | for_ (t : T) (it : It) (b : Ss)
  | whl (c : E) (b : Ss)
  | pass
  | brk
  | cont
  | nope
inductive Ss where
  | nil
  | cons (s : S) (ss : Ss)
end

/-! ### operations -/
def okLen {α : Type} (n : Nat) (a : α) : Option α := if n ≤ sizeLine then some a else none
def smallI (i : Int) : Bool := decide (-(2 ^ 64) < i ∧ i < 2 ^ 64)
def bopF (op : Bop) (a b : D) : M D := fun s => match op, a, b with
  | .add, .int i, .int j => .ok (.int (i + j)) s
  | .add, .str x, .str y => if x.length + y.length ≤ sizeLine then .ok (.str (x ++ y)) s else .no
  | .add, .tup xs, .tup ys => if xs.length + ys.length ≤ sizeLine then .ok (.tup (xs ++ ys)) s else .no
  | .add, .ref n, .ref m => match rdM s n, rdM s m with
    | some xs, some ys => if xs.length + ys.length ≤ sizeLine then .ok (.ref s.length) (s ++ [.lst (xs ++ ys)]) else .no
    | _, _ => .no
  | .sub, .int i, .int j => .ok (.int (i - j)) s
  | .mul, .int i, .int j => if i.natAbs.log2 + j.natAbs.log2 < 1000000 then .ok (.int (i * j)) s else .no
  | .fdiv, .int i, .int j => if 0 < j ∧ j.natAbs.log2 < 9000 then .ok (.int (i / j)) s else .no
  | .mod, .int i, .int j => if 0 < j then .ok (.int (i % j)) s else .no
  | _, _, _ => .no
def anyE (s : Store) (x : D) : List D → Option Bool
  | [] => some false
  | y :: ys => match eqF s y x with
    | some true => some true
    | some false => anyE s x ys
    | none => none
def seqOf (s : Store) : D → Option (List D)
  | .tup xs => some xs
  | .ref n => rdL s n
  | _ => none
/-- flat: None, bool, int, text -/
def flatD : D → Bool
  | .non => true
  | .bl _ => true
  | .int _ => true
  | .str _ => true
  | _ => false
def eqFlat : D → D → Bool
  | .non, .non => true
  | .bl a, .bl b => a == b
  | .bl a, .int j => (if a then 1 else 0) == j
  | .int i, .bl b => i == (if b then 1 else 0)
  | .int i, .int j => i == j
  | .str x, .str y => x == y
  | _, _ => false
def inF (s : Store) (x y : D) : Option Bool := match seqOf s y with
  | some ys => if flatD x && ys.all flatD then some (ys.any fun z => eqFlat z x) else none
  | none => none
def copF (op : Cop) (a b : D) (s : Store) : Option Bool := match op with
  | .eq => eqF s a b
  | .ne => (eqF s a b).map not
  | .isN => match b, a with
    | .non, .non => some true
    | .non, _ => some false
    | _, _ => none
  | .notN => match b, a with
    | .non, .non => some false
    | .non, _ => some true
    | _, _ => none
  | .lt => match a, b with
    | .int i, .int j => some (decide (i < j))
    | _, _ => none
  | .le => match a, b with
    | .int i, .int j => some (decide (i ≤ j))
    | _, _ => none
  | .gt => match a, b with
    | .int i, .int j => some (decide (j < i))
    | _, _ => none
  | .ge => match a, b with
    | .int i, .int j => some (decide (j ≤ i))
    | _, _ => none
  | .in_ => inF s a b
  | .notin => (inF s a b).map not
/-- xs[i] -/
def atF {α : Type} (xs : List α) (i : Int) : Option α := atI xs i
def idxF (a i : D) : M D := fun s => match a, i with
  | .tup xs, .int k => match atI xs k with
    | some d => .ok d s
    | none => .no
  | .ref n, .int k => match (rdL s n).bind fun xs => atI xs k with
    | some d => .ok d s
    | none => .no
  | .str z, .int k => if z.length ≤ sizeLine then match atI z.cps.toList k with
    | some c => .ok (.str ⟨#[c]⟩) s
    | none => .no
    else .no
  | _, _ => .no
def cutD {α : Type} (xs : List α) (lo hi : Option Int) : List α := (xs.drop (HT.sIx xs.length 0 lo)).take (HT.sIx xs.length xs.length hi - HT.sIx xs.length 0 lo)
def slcF (a : D) (lo hi : Option Int) : M D := fun s => match a with
  | .tup xs => .ok (.tup (cutD xs lo hi)) s
  | .ref n => match rdL s n with
    | some xs => newL (cutD xs lo hi) s
    | none => .no
  | _ => .no
/-- the classes of values -/
inductive Tn | non | bool | int | str | tuple | list
def tnOf (s : Store) : D → Option Tn
  | .non => some .non
  | .bl _ => some .bool
  | .int _ => some .int
  | .str _ => some .str
  | .tup _ => some .tuple
  | .ref n => (rdL s n).map fun _ => .list
def isTn : Tn → Ty → Bool
  | .bool, .int => true
  | .bool, .bool => true
  | .int, .int => true
  | .str, .str => true
  | .tuple, .tuple => true
  | .list, .list => true
  | _, _ => false
def intsOf : List D → Option (List Int)
  | [] => some []
  | .int i :: xs => (intsOf xs).map (i :: ·)
  | _ :: _ => none
def strsOf : List D → Option (List Str)
  | [] => some []
  | .str x :: xs => (strsOf xs).map (x :: ·)
  | _ :: _ => none
def blsOf : List D → Option (List Bool)
  | [] => some []
  | .bl x :: xs => (blsOf xs).map (x :: ·)
  | _ :: _ => none
def maxI : List Int → Option Int
  | [] => none
  | [x] => some x
  | x :: xs => (maxI xs).map fun m => if m ≤ x then x else m
def minI : List Int → Option Int
  | [] => none
  | [x] => some x
  | x :: xs => (minI xs).map fun m => if x ≤ m then x else m
abbrev G1 := D → M D
def lenF : G1 := fun a s => match a with
  | .str x => if x.length ≤ sizeLine then .ok (.int x.length) s else .no
  | .tup xs => .ok (.int xs.length) s
  | .ref n => match rdL s n with
    | some xs => .ok (.int xs.length) s
    | none => .no
  | _ => .no
def intF : G1 := fun a s => match a with
  | .int i => .ok (.int i) s
  | .bl k => .ok (.int (if k then 1 else 0)) s
  | _ => .no
def strF : G1 := fun a s => match a with
  | .int i => if i.natAbs.log2 < 1920 then .ok (.str (Str.ofString (toString i))) s else .no
  | _ => .no
def absF : G1 := fun a s => match a with
  | .int i => .ok (.int (if i < 0 then -i else i)) s
  | _ => .no
def tupleF : G1 := fun a s => match a with
  | .tup xs => .ok (.tup xs) s
  | .ref n => match rdL s n with
    | some xs => .ok (.tup xs) s
    | none => .no
  | _ => .no
def signsD (x : Str) : List D := x.cps.toList.map fun c => .str ⟨#[c]⟩
def listF : G1 := fun a s => match a with
  | .tup xs => newL xs s
  | .ref n => match rdL s n with
    | some xs => newL xs s
    | none => .no
  | .str x => if x.cps.size ≤ sizeLine then newL (signsD x) s else .no
  | _ => .no
/-- of a list of ints -/
def ovI (f : List Int → Option D) : G1 := fun a s => match a with
  | .ref n => match ((rdL s n).bind intsOf).bind f with
    | some d => .ok d s
    | none => .no
  | _ => .no
/-- of a list of bools -/
def ovB (f : List Bool → D) : G1 := fun a s => match a with
  | .ref n => match (rdL s n).bind blsOf with
    | some bs => .ok (f bs) s
    | none => .no
  | _ => .no
def minF : G1 := ovI fun is => (minI is).map .int
def maxF : G1 := ovI fun is => (maxI is).map .int
def sumF : G1 := ovI fun is => some (.int is.sum)
def anyF : G1 := ovB fun bs => .bl (bs.any id)
def allF : G1 := ovB fun bs => .bl (bs.all id)
def one (g : G1) (vs : List D) : M D := match vs with
  | [x] => g x
  | _ => no
def blt1 : Blt → G1
  | .len => lenF
  | .int => intF
  | .str => strF
  | .abs => absF
  | .tuple => tupleF
  | .list => listF
  | .minL => minF
  | .maxL => maxF
  | .sumL => sumF
  | .any => anyF
  | .all => allF
def bltF (b : Blt) (vs : List D) : M D := one (blt1 b) vs
abbrev GM := D → List D → M D
def appendF : GM := fun o vs s => match o, vs with
  | .ref n, [x] => match rdM s n with
    | some xs => if xs.length < sizeLine then setL n (xs ++ [x]) s else .no
    | none => .no
  | _, _ => .no
def popF : GM := fun o vs s => match o, vs with
  | .ref n, [] => match rdM s n with
    | some xs => match xs[xs.length - 1]? with
      | some y => .ok y (s.set n (.lst xs.dropLast))
      | none => .no
    | none => .no
  | _, _ => .no
/-- pop(0) -/
def pop0F : GM := fun o vs s => match o, vs with
  | .ref n, [.int 0] => match rdM s n with
    | some (y :: ys) => .ok y (s.set n (.lst ys))
    | _ => .no
  | _, _ => .no
def reverseF : GM := fun o vs s => match o, vs with
  | .ref n, [] => match rdM s n with
    | some xs => setL n xs.reverse s
    | none => .no
  | _, _ => .no
def clearF : GM := fun o vs s => match o, vs with
  | .ref n, [] => match rdM s n with
    | some _ => setL n [] s
    | none => .no
  | _, _ => .no
def joinF : GM := fun o vs s => match o, vs with
  | .str x, [y] => match (seqOf s y).bind strsOf with
    | some ys => if (ys.map (·.length)).sum + ys.length * x.length ≤ 16777216 then .ok (.str (Str.join x ys)) s else .no
    | none => .no
  | _, _ => .no
def splitF : GM := fun o vs s => match o, vs with
  | .str x, [.str y] => if (y.length == 0) = false ∧ x.length + 2 ≤ sizeLine then newL ((Txt.split x y).map .str) s else .no
  | _, _ => .no
def findF : GM := fun o vs s => match o, vs with
  | .str x, [.str y] => .ok (.int (Txt.find x y)) s
  | _, _ => .no
def startswithF : GM := fun o vs s => match o, vs with
  | .str x, [.str y] => .ok (.bl (Txt.startswith x y)) s
  | _, _ => .no
def partitionF : GM := fun o vs s => match o, vs with
  | .str x, [.str y] => if (y.length == 0) = false ∧ x.length ≤ sizeLine then
      .ok (.tup [.str (Txt.partition x y).1, .str (Txt.partition x y).2.1, .str (Txt.partition x y).2.2]) s else .no
  | _, _ => .no
def mthF : Mth → GM
  | .append => appendF
  | .pop => popF
  | .popAt => pop0F
  | .reverse => reverseF
  | .clear => clearF
  | .join => joinF
  | .split => splitF
  | .find => findF
  | .partition => partitionF
  | .startswith => startswithF

/-- is it of the method's class? -/
def mthTy (m : Mth) (o : D) (s : Store) : Option Unit := match m, o with
  | .join, .str _ => some ()
  | .split, .str _ => some ()
  | .find, .str _ => some ()
  | .partition, .str _ => some ()
  | .startswith, .str _ => some ()
  | .append, .ref n => (rdL s n).map fun _ => ()
  | .pop, .ref n => (rdL s n).map fun _ => ()
  | .popAt, .ref n => (rdL s n).map fun _ => ()
  | .reverse, .ref n => (rdL s n).map fun _ => ()
  | .clear, .ref n => (rdL s n).map fun _ => ()
  | _, _ => none

/-- a value in an f-string -/
def fmtF : D → M D
  | .str y => if y.length ≤ sizeLine then ret (.str y) else no
  | .int i => if i.natAbs.log2 < 1920 then ret (.str (Str.ofString (toString i))) else no
  | _ => no
def catS : List Str → Str → Str
  | [], acc => acc
  | y :: ys, acc => catS ys (acc ++ y)
def sumL : List Str → Nat
  | [] => 0
  | y :: ys => y.length + sumL ys
def fstrF (xs : List D) : M D := match strsOf xs with
  | some ys => if sumL ys ≤ sizeLine then ret (.str (catS ys Str.empty)) else no
  | none => no
/-- the ints of a range -/
def rgD (a b : Int) : List D := (List.range (b - a).toNat).map fun i => .int (a + (i : Nat))
def rgOkB (a b : Int) : Bool := decide (-(2 ^ 62) ≤ a ∧ a < 2 ^ 62 ∧ -(2 ^ 62) ≤ b ∧ b < 2 ^ 62 ∧ (b - a).toNat ≤ 2 ^ 24)
def tupRgF : D → D → M D
  | .int a, .int b => if rgOkB a b then ret (.tup (rgD a b)) else no
  | _, _ => no
/-! ### the evaluator -/
abbrev Env := List (Option D)
inductive Fl where
  | nx | rt (d : D) | bk | ct
/-- what is known of the text: its defs (at one depth less), its constants; how many turns a while may take -/
structure Tx where
  call : Str → List D → M D
  con : Str → Option D
  fuel : Nat
/-- a walk: how many turns, the item of a turn, whether it stops there -/
structure Wk where
  n : Nat
  at_ : Nat → Store → Option D
  fin : Store → Bool
def wkItems (xs : List D) : Wk := ⟨xs.length, fun i _ => xs[i]?, fun _ => true⟩
def wkList (n : Nat) (len : Nat) : Wk := ⟨len, fun i s => (rdL s n).bind (·[i]?), fun s => match rdL s n with
  | some xs => decide (xs.length ≤ len)
  | none => false⟩
def wkRng (lo : Int) (n : Nat) : Wk := ⟨n, fun i _ => some (.int (lo + i)), fun _ => true⟩
/-- two lists side by side -/
def wkZip (n1 n2 k : Nat) : Wk := ⟨k, fun i s => match (rdL s n1).bind (·[i]?), (rdL s n2).bind (·[i]?) with
  | some x, some y => some (.tup [x, y])
  | _, _ => none, fun s => match rdL s n1, rdL s n2 with
  | some xs, some ys => decide (xs.length ≤ k) || decide (ys.length ≤ k)
  | _, _ => false⟩
def zipD (xs ys : List D) : List D := xs.zipWith (fun x y => .tup [x, y]) ys
def wkEnum (n len : Nat) : Wk := ⟨len, fun i s => ((rdL s n).bind (·[i]?)).map fun x => .tup [.int i, x], fun s => match rdL s n with
  | some xs => decide (xs.length ≤ len)
  | none => false⟩
def zipF (s : Store) : D → D → Option Wk
  | .tup xs, .tup ys => some (wkItems (zipD xs ys))
  | .ref n1, .ref n2 => match rdL s n1, rdL s n2 with
    | some xs, some ys => some (wkZip n1 n2 (min xs.length ys.length))
    | _, _ => none
  | _, _ => none
def enumF (s : Store) : D → Option Wk
  | .ref n => (rdL s n).map fun xs => wkEnum n xs.length
  | _ => none
def wkOf (d : D) (s : Store) : Option Wk := match d with
  | .tup xs => some (wkItems xs)
  | .str x => some (wkItems (signsD x))
  | .ref n => (rdL s n).map fun xs => wkList n xs.length
  | _ => none
def inRng (i : Int) : Bool := decide (-(2 ^ 62) ≤ i ∧ i < 2 ^ 62)
/-- a loop's turns -/
def loopF (w : Wk) (f : D → Env → M (Fl × Env)) : Nat → Nat → Env → M (Fl × Env)
  | 0, _, ρ => fun s => if w.fin s then .ok (.nx, ρ) s else .no
  | k + 1, i, ρ => fun s => match w.at_ i s with
    | some x => match f x ρ s with
      | .ok (.nx, ρ1) s1 => loopF w f k (i + 1) ρ1 s1
      | .ok (.ct, ρ1) s1 => loopF w f k (i + 1) ρ1 s1
      | .ok (.bk, ρ1) s1 => .ok (.nx, ρ1) s1
      | .ok (.rt d, ρ1) s1 => .ok (.rt d, ρ1) s1
      | .ex x s1 => .ex x s1
      | .no => .no
    | none => .no
/-- a while's turns -/
def whileF (c : Env → M Bool) (f : Env → M (Fl × Env)) : Nat → Env → M (Fl × Env)
  | 0, _ => no
  | k + 1, ρ => bnd (c ρ) fun b => if b then fun s => match f ρ s with
      | .ok (.nx, ρ1) s1 => whileF c f k ρ1 s1
      | .ok (.ct, ρ1) s1 => whileF c f k ρ1 s1
      | .ok (.bk, ρ1) s1 => .ok (.nx, ρ1) s1
      | .ok (.rt d, ρ1) s1 => .ok (.rt d, ρ1) s1
      | .ex x s1 => .ex x s1
      | .no => .no
    else ret (.nx, ρ)
/-- a comprehension's turns: f gives the new item, or none where a test falls -/
def compF (w : Wk) (f : D → M (Option D)) : Nat → Nat → List D → M D
  | 0, _, acc => fun s => if w.fin s then newL acc s else .no
  | k + 1, i, acc => fun s => match w.at_ i s with
    | some x => match f x s with
      | .ok (some y) s1 => if acc.length < sizeLine then compF w f k (i + 1) (acc ++ [y]) s1 else .no
      | .ok none s1 => compF w f k (i + 1) acc s1
      | .ex x s1 => .ex x s1
      | .no => .no
    | none => .no
mutual
/-- a value goes to a target -/
def asgT : T → D → Env → Option Env
  | .name i, d, ρ => some (ρ.set i (some d))
  | .tup ts, .tup xs, ρ => asgTs ts xs ρ
  | .tup _, _, _ => none
def asgTs : List T → List D → Env → Option Env
  | [], [], ρ => some ρ
  | t :: ts, x :: xs, ρ => (asgT t x ρ).bind (asgTs ts xs)
  | _, _, _ => none
end
def wipeD (ρ : Env) : List Nat → Env
  | [] => ρ
  | v :: vs => (wipeD ρ vs).set v none
variable (Γ : Tx)
mutual
def evE : E → Env → M D
  | .lit d, _ => ret d
  | .var i, ρ => match ρ[i]? with
    | some (some d) => ret d
    | _ => no
  | .gl x, _ => opt (Γ.con x)
  | .tup es, ρ => bnd (evEs es ρ) fun xs => if xs.length ≤ sizeLine then ret (.tup xs) else no
  | .lst es, ρ => bnd (evEs es ρ) fun xs => if xs.length ≤ sizeLine then newL xs else no
  | .bin op a b, ρ => bnd (evE a ρ) fun x => bnd (evE b ρ) fun y => bopF op x y
  | .neg a, ρ => bnd (evE a ρ) fun x => match x with
    | .int i => ret (.int (-i))
    | _ => no
  | .cmp op a b, ρ => bnd (evE a ρ) fun x => bnd (evE b ρ) fun y => see fun s => (copF op x y s).map .bl
  | .chain op op' a b c, ρ => bnd (evE a ρ) fun x => bnd (evE b ρ) fun y => bnd (see (copF op x y)) fun k =>
      if k then bnd (evE c ρ) fun z => see fun s => (copF op' y z s).map .bl else ret (.bl false)
  | .and_ es, ρ => evAnd es ρ
  | .or_ es, ρ => evOr es ρ
  | .not_ a, ρ => bnd (evE a ρ) fun x => see fun s => (truF s x).map fun k => .bl (!k)
  | .ifx c a b, ρ => bnd (evT c ρ) fun k => if k then evE a ρ else evE b ρ
  | .idx a i, ρ => bnd (evE a ρ) fun x => bnd (evE i ρ) fun y => idxF x y
  | .slc a lo hi, ρ => bnd (evE a ρ) fun x => bnd (evP lo ρ) fun l => bnd (evP hi ρ) fun h => slcF x l h
  | .call f es, ρ => bnd (evEs es ρ) fun xs => Γ.call f xs
  | .blt b es, ρ => bnd (evEs es ρ) fun xs => bltF b xs
  | .isi a t, ρ => bnd (evE a ρ) fun x => see fun s => (tnOf s x).map fun n => .bl (isTn n t)
  | .isis a ts, ρ => bnd (evE a ρ) fun x => bnd (see fun s => tnOf s x) fun n => if ts.length ≤ sizeLine then ret (.bl (ts.any (isTn n))) else no
  | .mth o m es, ρ => bnd (evE o ρ) fun x => bnd (see (mthTy m x)) fun _ => bnd (evEs es ρ) fun xs => mthF m x xs
  | .lc elt tg it cond own, ρ => bnd (evIt it ρ) fun w => compF w (fun x => match asgT tg x (wipeD ρ (own.map (·.2))) with
      | some ρ1 => bnd (evC cond ρ1) fun k => if k then bnd (evE elt ρ1) fun y => ret (some y) else ret none
      | none => no) w.n 0 []
  | .fmt a, ρ => bnd (evE a ρ) fmtF
  | .fstr es, ρ => bnd (evEs es ρ) fstrF
  | .tupRg1 a, ρ => bnd (evE a ρ) fun x => tupRgF (.int 0) x
  | .tupRg2 a b, ρ => bnd (evE a ρ) fun x => bnd (evE b ρ) fun y => tupRgF x y
/-- as a test -/
def evT : E → Env → M Bool
  | .and_ es, ρ => evTA es ρ
  | .or_ es, ρ => evTO es ρ
  | .not_ a, ρ => bnd (evT a ρ) fun k => ret (!k)
  | .ifx c a b, ρ => bnd (evT c ρ) fun k => if k then evT a ρ else evT b ρ
  | e, ρ => bnd (evE e ρ) fun x => see fun s => truF s x
def evEs : Es → Env → M (List D)
  | .nil, _ => ret []
  | .cons e es, ρ => bnd (evE e ρ) fun x => bnd (evEs es ρ) fun xs => ret (x :: xs)
def evAnd : Es → Env → M D
  | .nil, _ => no
  | .cons e .nil, ρ => evE e ρ
  | .cons e es, ρ => bnd (evE e ρ) fun x => bnd (see fun s => truF s x) fun k => if k then evAnd es ρ else ret x
def evOr : Es → Env → M D
  | .nil, _ => no
  | .cons e .nil, ρ => evE e ρ
  | .cons e es, ρ => bnd (evE e ρ) fun x => bnd (see fun s => truF s x) fun k => if k then ret x else evOr es ρ
def evTA : Es → Env → M Bool
  | .nil, _ => ret true
  | .cons e es, ρ => bnd (evT e ρ) fun k => if k then evTA es ρ else ret false
def evTO : Es → Env → M Bool
  | .nil, _ => ret false
  | .cons e es, ρ => bnd (evT e ρ) fun k => if k then ret true else evTO es ρ
/-- a slice's part -/
def evP : Es → Env → M (Option Int)
  | .nil, _ => ret none
  | .cons e .nil, ρ => bnd (evE e ρ) fun x => match x with
    | .int i => ret (some i)
    | _ => no
  | _, _ => no
/-- a comprehension's tests: none, or one -/
def evC : Es → Env → M Bool
  | .nil, _ => ret true
  | .cons e .nil, ρ => evT e ρ
  | _, _ => no
def evIt : It → Env → M Wk
  | .val e, ρ => bnd (evE e ρ) fun x => see (wkOf x)
  | .rng1 a, ρ => bnd (evE a ρ) fun x => match x with
    | .int j => if inRng j then ret (wkRng 0 j.toNat) else no
    | _ => no
  | .rng2 a b, ρ => bnd (evE a ρ) fun x => bnd (evE b ρ) fun y => match x, y with
    | .int i, .int j => if inRng i && inRng j then ret (wkRng i (j - i).toNat) else no
    | _, _ => no
  | .zip a b, ρ => bnd (evE a ρ) fun x => bnd (evE b ρ) fun y => see fun s => zipF s x y
  | .enum a, ρ => bnd (evE a ρ) fun x => see fun s => enumF s x
end
mutual
def evS : S → Env → M (Fl × Env)
  | .asg t e, ρ => bnd (evE Γ e ρ) fun x => bnd (opt (asgT t x ρ)) fun ρ1 => ret (.nx, ρ1)
  | .asgi o i e, ρ => bnd (evE Γ e ρ) fun x => bnd (evE Γ o ρ) fun y => bnd (evE Γ i ρ) fun z => fun s => match y, z with
    | .ref n, .int k => match rdM s n with
      | some xs => match ixN xs.length k with
        | some j => .ok (.nx, ρ) (s.set n (.lst (xs.set j x)))
        | none => .no
      | none => .no
    | _, _ => .no
  | .aug i op e, ρ => match ρ[i]? with
    | some (some x) => bnd (evE Γ e ρ) fun y => match op, x, y with
      | .add, .int j, .int k => ret (.nx, ρ.set i (some (.int (j + k))))
      | .sub, .int j, .int k => ret (.nx, ρ.set i (some (.int (j - k))))
      | _, _, _ => no
    | _ => no
  | .ex e, ρ => bnd (evE Γ e ρ) fun _ => ret (.nx, ρ)
  | .ret e, ρ => bnd (evE Γ e ρ) fun x => ret (.rt x, ρ)
  | .retn, ρ => ret (.rt .non, ρ)
  | .iff c a b, ρ => bnd (evT Γ c ρ) fun k => if k then evSs a ρ else evSs b ρ
  | .for_ t it b, ρ => bnd (evIt Γ it ρ) fun w => loopF w (fun x ρ1 => match asgT t x ρ1 with
      | some ρ2 => evSs b ρ2
      | none => no) w.n 0 ρ
  | .whl c b, ρ => whileF (evT Γ c) (evSs b) Γ.fuel ρ
  | .pass, ρ => ret (.nx, ρ)
  | .brk, ρ => ret (.bk, ρ)
  | .cont, ρ => ret (.ct, ρ)
  | .nope, _ => no
def evSs : Ss → Env → M (Fl × Env)
  | .nil, ρ => ret (.nx, ρ)
  | .cons s ss, ρ => bnd (evS s ρ) fun r => match r.1 with
    | .nx => evSs ss r.2
    | _ => ret r
end
/-- a def's own text: its name, its parameters, its slots, its body -/
structure Df where
  name : Str
  np : Nat
  nn : Nat
  body : Ss
/-- a def is called -/
def runD (d : Df) (args : List D) : M D := if args.length = d.np then bnd (evSs Γ d.body (args.map some ++ List.replicate (d.nn - d.np) none)) fun r => match r.1 with
    | .rt x => ret x
    | .nx => ret .non
    | _ => no
  else no
def findD : List Df → Str → Option Df
  | [], _ => none
  | d :: ds, x => if d.name = x then some d else findD ds x
/-- the defs of a text, at a depth -/
def callD (ds : List Df) (con : Str → Option D) (fuel : Nat) : Nat → Str → List D → M D
  | 0, _, _ => no
  | k + 1, f, args => match findD ds f with
    | some d => runD ⟨callD ds con fuel k, con, fuel⟩ d args
    | none => no
def txD (ds : List Df) (con : Str → Option D) (fuel k : Nat) : Tx := ⟨callD ds con fuel k, con, fuel⟩
end My

/-! How a clean store stands in the abstract heap. -/
namespace My
open PySem L2

/-- where the store's objects stand, and whether they may be written -/
abbrev Mp := List (Addr × Bool)
mutual
inductive IsD (K : PySem.W.Frag) (m : Mp) (H : Hp) : V → D → Prop
  | non : IsD K m H .non .non
  | bl (b : Bool) : IsD K m H (.bl b) (.bl b)
  | int (i : Int) : IsD K m H (.int i) (.int i)
  | str (x : Str) : IsD K m H (.str x) (.str x)
  | tup {a : Addr} {vs : List V} {xs : List D} : SqT K H a vs → IsDs K m H vs xs → IsD K m H (.ref a) (.tup xs)
  | ref {a : Addr} {f : Bool} {n : Nat} : m[n]? = some (a, f) → IsD K m H (.ref a) (.ref n)
inductive IsDs (K : PySem.W.Frag) (m : Mp) (H : Hp) : List V → List D → Prop
  | nil : IsDs K m H [] []
  | cons {v : V} {d : D} {vs : List V} {ds : List D} : IsD K m H v d → IsDs K m H vs ds → IsDs K m H (v :: vs) (d :: ds)
end
mutual
theorem IsD.mn {K : PySem.W.Frag} {m m' : Mp} {H H' : Hp} (hm : ∀ (n : Nat) a, m[n]? = some a → m'[n]? = some a) (tup : ∀ a us, SqT K H a us → SqT K H' a us) : ∀ {v : V} {d : D}, IsD K m H v d → IsD K m' H' v d
  | _, _, .non => .non
  | _, _, .bl b => .bl b
  | _, _, .int i => .int i
  | _, _, .str x => .str x
  | _, _, .tup h hs => .tup (tup _ _ h) (IsDs.mn hm tup hs)
  | _, _, .ref h => .ref (hm _ _ h)
theorem IsDs.mn {K : PySem.W.Frag} {m m' : Mp} {H H' : Hp} (hm : ∀ (n : Nat) a, m[n]? = some a → m'[n]? = some a) (tup : ∀ a us, SqT K H a us → SqT K H' a us) : ∀ {vs : List V} {ds : List D}, IsDs K m H vs ds → IsDs K m' H' vs ds
  | _, _, .nil => .nil
  | _, _, .cons h hs => .cons (IsD.mn hm tup h) (IsDs.mn hm tup hs)
end
/-- a list that is only read -/
def RoL (K : PySem.W.Frag) (H : Hp) (a : Addr) (vs : List V) : Prop :=
  (∃ o, H a = some (.frz o (.lst vs))) ∨
    ∃ (o : Obj) (its : Array Value) (n : Nat), K.lookup a = some o ∧ o.cls = .type "list" ∧ o.dict = none ∧ o.data = .seq its n ∧ its.size ≤ sizeLine ∧ Vals vs its.toList
theorem RoL.sq {K : PySem.W.Frag} {H : Hp} {a : Addr} {vs : List V} (h : RoL K H a vs) : SqL K H a vs := by
  rcases h with ⟨o, h⟩ | h
  · exact .inl (.inr ⟨o, h⟩)
  · exact .inr h
def RepO (K : PySem.W.Frag) (m : Mp) (H : Hp) (a : Addr) : Ob → Prop
  | .lst xs => ∃ vs, H a = some (.lst vs) ∧ IsDs K m H vs xs
  | .ro xs => ∃ vs, RoL K H a vs ∧ IsDs K m H vs xs
/-- is it written? -/
def Ob.mut : Ob → Bool
  | .lst _ => true
  | .ro _ => false
structure Rep (K : PySem.W.Frag) (m : Mp) (S : Store) (H : Hp) : Prop where
  len : m.length = S.length
  inj : ∀ (i j : Nat) a, m[i]? = some (a, true) → m[j]? = some (a, true) → i = j
  obj : ∀ (i : Nat) a f o, m[i]? = some (a, f) → S[i]? = some o → f = o.mut ∧ RepO K m H a o
def mutH : HO → Bool
  | .lst _ => true
  | _ => false
/-- from one moment to a later one -/
structure Ex (m m' : Mp) (H H' : Hp) : Prop where
  pre : ∃ l, m' = m ++ l
  new : ∀ a, (a, true) ∈ m' → (a, true) ∈ m ∨ H a = none
  fr : ∀ b o, H b = some o → ((b, true) ∉ m ∨ mutH o = false) → H' b = some o
section
variable {K : PySem.W.Frag} {m m1 m2 : Mp} {H H1 H2 : Hp} {S S1 : Store}
theorem Ex.refl : Ex m m H H := ⟨⟨[], by simp⟩, fun _ h => .inl h, fun _ _ h _ => h⟩
theorem Ex.trans (a : Ex m m1 H H1) (b : Ex m1 m2 H1 H2) : Ex m m2 H H2 := by
  obtain ⟨l, rfl⟩ := a.pre
  obtain ⟨l2, rfl⟩ := b.pre
  have n1 := a.new
  have key : ∀ x o, H x = some o → (x, true) ∉ m → (x, true) ∉ m ++ l := fun x o h hn hx => by
    rcases n1 x hx with z | z
    · exact hn z
    · rw [z] at h; cases h
  refine ⟨⟨l ++ l2, by simp⟩, fun x hx => ?_, fun x o h hn => ?_⟩
  · rcases b.new x hx with h | h
    · exact n1 x h
    · by_cases hm : (x, true) ∈ m
      · exact .inl hm
      · cases q : H x with
        | none => exact .inr rfl
        | some o =>
          rw [a.fr x o q (.inl hm)] at h
          cases h
  · have h1 := a.fr x o h hn
    refine b.fr x o h1 ?_
    rcases hn with hn | hn
    · exact .inl (key x o h hn)
    · exact .inr hn
theorem Ex.get (a : Ex m m1 H H1) {n : Nat} {x : Addr × Bool} (h : m[n]? = some x) : m1[n]? = some x := by
  obtain ⟨l, rfl⟩ := a.pre
  have hlt := (List.getElem?_eq_some_iff.mp h).1
  rw [List.getElem?_append_left hlt]; exact h
theorem Ex.sqT (a : Ex m m1 H H1) {b : Addr} {vs : List V} (h : SqT K H b vs) : SqT K H1 b vs := by
  rcases h with (h | ⟨o, h⟩) | h
  · exact .inl (.inl (a.fr b _ h (.inr rfl)))
  · exact .inl (.inr ⟨o, a.fr b _ h (.inr rfl)⟩)
  · exact .inr h
theorem Ex.roL (a : Ex m m1 H H1) {b : Addr} {vs : List V} (h : RoL K H b vs) : RoL K H1 b vs := by
  rcases h with ⟨o, h⟩ | h
  · exact .inl ⟨o, a.fr b _ h (.inr rfl)⟩
  · exact .inr h
mutual
theorem IsD.ex (a : Ex m m1 H H1) : ∀ {v : V} {d : D}, IsD K m H v d → IsD K m1 H1 v d
  | _, _, .non => .non
  | _, _, .bl b => .bl b
  | _, _, .int i => .int i
  | _, _, .str x => .str x
  | _, _, .tup h hs => .tup (a.sqT h) (IsDs.ex a hs)
  | _, _, .ref h => .ref (a.get h)
theorem IsDs.ex (a : Ex m m1 H H1) : ∀ {vs : List V} {ds : List D}, IsDs K m H vs ds → IsDs K m1 H1 vs ds
  | _, _, .nil => .nil
  | _, _, .cons h hs => .cons (IsD.ex a h) (IsDs.ex a hs)
end
/-- the heap grows, nothing is changed -/
theorem Ex.grow (h : ∀ b o, H b = some o → H1 b = some o) : Ex m m H H1 := ⟨⟨[], by simp⟩, fun _ h => .inl h, fun b o e _ => h b o e⟩
theorem Rep.grow (r : Rep K m S H) (h : ∀ b o, H b = some o → H1 b = some o) : Rep K m S H1 := by
  refine ⟨r.len, r.inj, fun i a f o h1 h2 => ?_⟩
  obtain ⟨hf, q⟩ := r.obj i a f o h1 h2
  refine ⟨hf, ?_⟩
  cases o with
  | lst xs =>
    obtain ⟨vs, e, z⟩ := q
    exact ⟨vs, h _ _ e, z.ex (Ex.grow h)⟩
  | ro xs =>
    obtain ⟨vs, e, z⟩ := q
    exact ⟨vs, (Ex.grow (m := m) h).roL e, z.ex (Ex.grow h)⟩
theorem grow_upd {p : Addr} {o : HO} (hp : H p = none) : ∀ b u, H b = some u → (upd H p o) b = some u := fun b u e => by
  rw [upd_ne (ne_of_none e hp)]; exact e
/-- what is tracked to be written stands -/
theorem Rep.there (r : Rep K m S H) {a : Addr} (h : (a, true) ∈ m) : ∃ vs, H a = some (.lst vs) := by
  obtain ⟨i, hi, e⟩ := List.getElem_of_mem h
  have h1 : m[i]? = some (a, true) := by rw [List.getElem?_eq_getElem hi, e]
  have h2 : i < S.length := by rw [← r.len]; exact hi
  obtain ⟨hf, q⟩ := r.obj i a true _ h1 (List.getElem?_eq_getElem h2)
  generalize S[i] = o at hf q
  cases o with
  | lst xs => obtain ⟨vs, q, _⟩ := q; exact ⟨vs, q⟩
  | ro xs => cases hf
theorem Rep.fresh (r : Rep K m S H) {p : Addr} (hp : H p = none) : (p, true) ∉ m := fun h => by
  obtain ⟨vs, e⟩ := r.there h
  rw [hp] at e; cases e
/-- a list that stands comes to be tracked -/
theorem Rep.adopt (r : Rep K m S H) {p : Addr} {vs : List V} {xs : List D} (hp : H p = some (.lst vs)) (hn : (p, true) ∉ m) (hs : IsDs K m H vs xs) : Rep K (m ++ [(p, true)]) (S ++ [.lst xs]) H := by
  have len := r.len
  have hm : ∀ (n : Nat) a, m[n]? = some a → (m ++ [(p, true)])[n]? = some a := fun n a h => by
    rw [List.getElem?_append_left (List.getElem?_eq_some_iff.mp h).1]; exact h
  have same : ∀ a us, SqT K H a us → SqT K H a us := fun _ _ h => h
  have back : ∀ (i : Nat) a f, (m ++ [(p, true)])[i]? = some (a, f) → (i < m.length ∧ m[i]? = some (a, f)) ∨ (i = m.length ∧ a = p ∧ f = true) := fun i a f h => by
    by_cases hi : i < m.length
    · rw [List.getElem?_append_left hi] at h
      exact .inl ⟨hi, h⟩
    · have hi2 := (List.getElem?_eq_some_iff.mp h).1
      simp only [List.length_append, List.length_singleton] at hi2
      have ei : i = m.length := by omega
      subst ei
      rw [List.getElem?_append_right (Nat.le_refl _)] at h
      simp at h
      exact .inr ⟨rfl, h.1.symm, h.2⟩
  refine ⟨by simp [r.len], fun i j a h1 h2 => ?_, fun i a f o h1 h2 => ?_⟩
  · rcases back i a true h1 with ⟨_, e1⟩ | ⟨e1, e2, _⟩ <;> rcases back j a true h2 with ⟨_, e3⟩ | ⟨e3, e4, _⟩
    · exact r.inj i j a e1 e3
    · subst e4; exact (hn (List.mem_of_getElem? e1)).elim
    · subst e2; exact (hn (List.mem_of_getElem? e3)).elim
    · omega
  · rcases back i a f h1 with ⟨hi, e1⟩ | ⟨e1, e2, e3⟩
    · rw [List.getElem?_append_left (by omega)] at h2
      obtain ⟨hf, q⟩ := r.obj i a f o e1 h2
      refine ⟨hf, ?_⟩
      cases o with
      | lst ys =>
        obtain ⟨ws, e, z⟩ := q
        exact ⟨ws, e, z.mn hm same⟩
      | ro ys =>
        obtain ⟨ws, e, z⟩ := q
        exact ⟨ws, e, z.mn hm same⟩
    · subst e1 e2 e3
      rw [len, List.getElem?_append_right (Nat.le_refl _)] at h2
      simp at h2
      subst h2
      exact ⟨rfl, vs, hp, hs.mn hm same⟩
/-- a new list is laid -/
theorem Rep.alloc (r : Rep K m S H) {p : Addr} {vs : List V} {xs : List D} (hp : H p = none) (hs : IsDs K m H vs xs) :
    Rep K (m ++ [(p, true)]) (S ++ [.lst xs]) (upd H p (.lst vs)) ∧ Ex m (m ++ [(p, true)]) H (upd H p (.lst vs)) := by
  refine ⟨(r.grow (grow_upd hp)).adopt upd_same (r.fresh hp) (hs.ex (.grow (grow_upd hp))), ⟨⟨[(p, true)], rfl⟩, fun a h => ?_, fun b o e _ => grow_upd hp b o e⟩⟩
  rcases List.mem_append.mp h with h | h
  · exact .inl h
  · have : a = p := congrArg Prod.fst (List.mem_singleton.mp h)
    rw [this]; exact .inr hp
theorem sqT_upd {D' : Addr} {vs ws : List V} (hD : H D' = some (.lst vs)) : ∀ a us, SqT K H a us → SqT K (upd H D' (.lst ws)) a us := fun a us h => by
  rcases h with (h | ⟨o, h⟩) | h
  · exact .inl (.inl (by rw [upd_ne (ne_of h hD (by intro z; cases z))]; exact h))
  · exact .inl (.inr ⟨o, by rw [upd_ne (ne_of h hD (by intro z; cases z))]; exact h⟩)
  · exact .inr h
theorem roL_upd {D' : Addr} {vs ws : List V} (hD : H D' = some (.lst vs)) {a : Addr} {us : List V} (h : RoL K H a us) : RoL K (upd H D' (.lst ws)) a us := by
  rcases h with ⟨o, h⟩ | h
  · exact .inl ⟨o, by rw [upd_ne (ne_of h hD (by intro z; cases z))]; exact h⟩
  · exact .inr h
/-- an untracked list is changed -/
theorem Rep.other (r : Rep K m S H) {p : Addr} {vs ws : List V} (hp : H p = some (.lst vs)) (hn : (p, true) ∉ m) : Rep K m S (upd H p (.lst ws)) := by
  have tup := sqT_upd (K := K) (ws := ws) hp
  refine ⟨r.len, r.inj, fun i a f o h1 h2 => ?_⟩
  obtain ⟨hf, q⟩ := r.obj i a f o h1 h2
  refine ⟨hf, ?_⟩
  cases o with
  | lst xs =>
    have hf' : f = true := hf
    subst hf'
    have ham : a ≠ p := fun z => hn (z ▸ List.mem_of_getElem? h1)
    obtain ⟨us, e, z⟩ := q
    exact ⟨us, by rw [upd_ne ham]; exact e, z.mn (fun _ _ h => h) tup⟩
  | ro xs =>
    obtain ⟨us, e, z⟩ := q
    exact ⟨us, roL_upd hp e, z.mn (fun _ _ h => h) tup⟩
/-- a list is changed -/
theorem Rep.setL (r : Rep K m S H) {n : Nat} {a : Addr} {ws vs : List V} {ys xs : List D} (hm : m[n]? = some (a, true)) (hS : S[n]? = some (.lst ys)) (hH : H a = some (.lst ws)) (hs : IsDs K m H vs xs) :
    Rep K m (S.set n (.lst xs)) (upd H a (.lst vs)) ∧ Ex m m H (upd H a (.lst vs)) := by
  have ham : (a, true) ∈ m := List.mem_of_getElem? hm
  have ex : Ex m m H (upd H a (.lst vs)) := ⟨⟨[], by simp⟩, fun _ h => .inl h, fun b o e z => by
    have hb : b ≠ a := by
      rintro rfl
      rcases z with z | z
      · exact z ham
      · rw [hH] at e; cases e; cases z
    rw [upd_ne hb]; exact e⟩
  have hn : n < S.length := (List.getElem?_eq_some_iff.mp hS).1
  refine ⟨⟨by rw [List.length_set]; exact r.len, r.inj, fun i b f o h1 h2 => ?_⟩, ex⟩
  by_cases e : n = i
  · subst e
    rw [List.getElem?_set_self hn] at h2
    cases h2
    rw [hm] at h1; cases h1
    exact ⟨rfl, vs, upd_same, hs.ex ex⟩
  · rw [List.getElem?_set_ne e] at h2
    obtain ⟨hf, q⟩ := r.obj i b f o h1 h2
    refine ⟨hf, ?_⟩
    cases o with
    | lst zs =>
      obtain ⟨us, e1, z⟩ := q
      have hb : b ≠ a := by
        rintro rfl
        have hf : f = true := hf
        subst hf
        exact e (r.inj n i b hm h1)
      exact ⟨us, by rw [upd_ne hb]; exact e1, z.ex ex⟩
    | ro zs =>
      obtain ⟨us, e1, z⟩ := q
      exact ⟨us, ex.roL e1, z.ex ex⟩
/-- a list is read -/
theorem Rep.rdL (r : Rep K m S H) {n : Nat} {v : V} {xs : List D} (hv : IsD K m H v (.ref n)) (hr : rdL S n = some xs) : ∃ a vs, v = .ref a ∧ (∃ f, m[n]? = some (a, f)) ∧ SqL K H a vs ∧ IsDs K m H vs xs := by
  cases hv with
  | ref h =>
    rename_i a f
    unfold My.rdL at hr
    split at hr
    · rename_i ys e
      cases hr
      obtain ⟨_, vs, e2, z⟩ := r.obj n a f _ h e
      exact ⟨a, vs, rfl, ⟨f, h⟩, .of e2, z⟩
    · rename_i ys e
      cases hr
      obtain ⟨_, vs, e2, z⟩ := r.obj n a f _ h e
      exact ⟨a, vs, rfl, ⟨f, h⟩, e2.sq, z⟩
    · cases hr
theorem Rep.rdM (r : Rep K m S H) {n : Nat} {v : V} {xs : List D} (hv : IsD K m H v (.ref n)) (hr : rdM S n = some xs) : ∃ a vs, v = .ref a ∧ m[n]? = some (a, true) ∧ S[n]? = some (.lst xs) ∧ H a = some (.lst vs) ∧ IsDs K m H vs xs := by
  cases hv with
  | ref h =>
    rename_i a f
    unfold My.rdM at hr
    split at hr
    · rename_i ys e
      cases hr
      obtain ⟨hf, vs, e2, z⟩ := r.obj n a f _ h e
      have hf : f = true := hf
      subst hf
      exact ⟨a, vs, rfl, h, e, e2, z⟩
    · cases hr
theorem rdM_rdL {n : Nat} {xs : List D} (h : My.rdM S n = some xs) : My.rdL S n = some xs := by
  unfold My.rdM at h
  unfold My.rdL
  split at h
  · rename_i ys e
    rw [e]
    exact h
  · cases h
end

/-! ### lists of data -/
section
variable {K : PySem.W.Frag} {m : Mp} {H : Hp} {S : Store}
theorem IsDs.length : ∀ {vs : List V} {ds : List D}, IsDs K m H vs ds → vs.length = ds.length
  | _, _, .nil => rfl
  | _, _, .cons _ hs => by simp [IsDs.length hs]
theorem IsDs.get : ∀ {vs : List V} {ds : List D} {i : Nat} {d : D}, IsDs K m H vs ds → ds[i]? = some d → ∃ v, vs[i]? = some v ∧ IsD K m H v d
  | _, _, _, _, .nil, h => by simp at h
  | _, _, 0, _, .cons h _, e => by simp at e; subst e; exact ⟨_, rfl, h⟩
  | _, _, i + 1, _, .cons _ hs, e => by
    obtain ⟨v, e1, e2⟩ := IsDs.get (i := i) hs (by simpa using e)
    exact ⟨v, by simpa using e1, e2⟩
theorem IsDs.append : ∀ {vs ws : List V} {ds es : List D}, IsDs K m H vs ds → IsDs K m H ws es → IsDs K m H (vs ++ ws) (ds ++ es)
  | _, _, _, _, .nil, g => g
  | _, _, _, _, .cons h hs, g => .cons h (IsDs.append hs g)
theorem IsDs.set : ∀ {vs : List V} {ds : List D} {v : V} {d : D} (i : Nat), IsDs K m H vs ds → IsD K m H v d → IsDs K m H (vs.set i v) (ds.set i d)
  | _, _, _, _, _, .nil, _ => .nil
  | _, _, _, _, 0, .cons _ hs, g => .cons g hs
  | _, _, _, _, i + 1, .cons h hs, g => .cons h (IsDs.set i hs g)
theorem IsDs.drop : ∀ {vs : List V} {ds : List D} (i : Nat), IsDs K m H vs ds → IsDs K m H (vs.drop i) (ds.drop i)
  | _, _, 0, h => h
  | _, _, _ + 1, .nil => .nil
  | _, _, i + 1, .cons _ hs => IsDs.drop i hs
theorem IsDs.take : ∀ {vs : List V} {ds : List D} (i : Nat), IsDs K m H vs ds → IsDs K m H (vs.take i) (ds.take i)
  | _, _, 0, _ => .nil
  | _, _, _ + 1, .nil => .nil
  | _, _, i + 1, .cons h hs => .cons h (IsDs.take i hs)
theorem IsDs.dropLast {vs : List V} {ds : List D} (h : IsDs K m H vs ds) : IsDs K m H vs.dropLast ds.dropLast := by
  rw [List.dropLast_eq_take, List.dropLast_eq_take, h.length]
  exact h.take _
theorem IsDs.reverse : ∀ {vs : List V} {ds : List D}, IsDs K m H vs ds → IsDs K m H vs.reverse ds.reverse
  | _, _, .nil => .nil
  | _, _, .cons h hs => by
    rw [List.reverse_cons, List.reverse_cons]
    exact (IsDs.reverse hs).append (.cons h .nil)
theorem IsDs.ints : ∀ {is : List Int} {vs : List V}, IsDs K m H vs (is.map .int) → vs = is.map V.int
  | [], _, h => by cases h; rfl
  | i :: is, _, h => by
    rw [List.map_cons] at h
    cases h with
    | cons h hs =>
      cases h
      rw [IsDs.ints hs]; rfl
theorem IsDs.strs : ∀ {is : List Str} {vs : List V}, IsDs K m H vs (is.map .str) → vs = is.map V.str
  | [], _, h => by cases h; rfl
  | i :: is, _, h => by
    rw [List.map_cons] at h
    cases h with
    | cons h hs =>
      cases h
      rw [IsDs.strs hs]; rfl
theorem IsDs.bls : ∀ {is : List Bool} {vs : List V}, IsDs K m H vs (is.map .bl) → vs = is.map V.bl
  | [], _, h => by cases h; rfl
  | i :: is, _, h => by
    rw [List.map_cons] at h
    cases h with
    | cons h hs =>
      cases h
      rw [IsDs.bls hs]; rfl
theorem IsDs.ofInts : ∀ (is : List Int), IsDs K m H (is.map V.int) (is.map .int)
  | [] => .nil
  | i :: is => .cons (.int i) (IsDs.ofInts is)
theorem IsDs.ofStrs : ∀ (is : List Str), IsDs K m H (is.map V.str) (is.map .str)
  | [] => .nil
  | i :: is => .cons (.str i) (IsDs.ofStrs is)
theorem intsOf_eq : ∀ {ds : List D} {is : List Int}, intsOf ds = some is → ds = is.map .int
  | [], _, h => by cases h; rfl
  | .int i :: ds, _, h => by
    simp only [intsOf, Option.map_eq_some_iff] at h
    obtain ⟨js, e, rfl⟩ := h
    rw [intsOf_eq e]; rfl
  | .non :: _, _, h => by cases h
  | .bl _ :: _, _, h => by cases h
  | .str _ :: _, _, h => by cases h
  | .tup _ :: _, _, h => by cases h
  | .ref _ :: _, _, h => by cases h
theorem strsOf_eq : ∀ {ds : List D} {is : List Str}, strsOf ds = some is → ds = is.map .str
  | [], _, h => by cases h; rfl
  | .str i :: ds, _, h => by
    simp only [strsOf, Option.map_eq_some_iff] at h
    obtain ⟨js, e, rfl⟩ := h
    rw [strsOf_eq e]; rfl
  | .non :: _, _, h => by cases h
  | .bl _ :: _, _, h => by cases h
  | .int _ :: _, _, h => by cases h
  | .tup _ :: _, _, h => by cases h
  | .ref _ :: _, _, h => by cases h
theorem blsOf_eq : ∀ {ds : List D} {is : List Bool}, blsOf ds = some is → ds = is.map .bl
  | [], _, h => by cases h; rfl
  | .bl i :: ds, _, h => by
    simp only [blsOf, Option.map_eq_some_iff] at h
    obtain ⟨js, e, rfl⟩ := h
    rw [blsOf_eq e]; rfl
  | .non :: _, _, h => by cases h
  | .str _ :: _, _, h => by cases h
  | .int _ :: _, _, h => by cases h
  | .tup _ :: _, _, h => by cases h
  | .ref _ :: _, _, h => by cases h
end

/-! ### as data -/
section
variable {K : PySem.W.Frag} {m : Mp} {H : Hp} {S : Store}
theorem toP_list (r : Rep K m S H) {f : Nat} (ih : ∀ (d : D) (p : PyData) (v : V), toP S f d = some p → IsD K m H v d → Dp K H v p ∧ p.canLay0 = true ∧ p.depth ≤ f) :
    ∀ (ds : List D) (ps : List PyData) (vs : List V), allO (toP S f) ds = some ps → IsDs K m H vs ds → DpAll K H vs ps ∧ PyData.canLayAll0 ps = true ∧ PyData.depthAll ps ≤ f
  | [], _, _, h, g => by
    cases h
    cases g
    exact ⟨.nil, rfl, Nat.zero_le _⟩
  | d :: ds, ps, _, h, g => by
    unfold allO at h
    split at h
    · rename_i p qs e1 e2
      cases h
      cases g with
      | cons g gs =>
        obtain ⟨a1, a2, a3⟩ := ih d p _ e1 g
        obtain ⟨b1, b2, b3⟩ := toP_list r ih ds qs _ e2 gs
        refine ⟨.cons a1 b1, ?_, ?_⟩
        · rw [PyData.canLayAll0, a2, b2]; rfl
        · rw [PyData.depthAll]; omega
    · cases h
theorem toP_ok (r : Rep K m S H) : ∀ (f : Nat) (d : D) (p : PyData) (v : V), toP S f d = some p → IsD K m H v d → Dp K H v p ∧ p.canLay0 = true ∧ p.depth ≤ f := by
  intro f
  induction f with
  | zero =>
    intro d p v h g
    cases d with
    | non => simp only [toP] at h; cases h; cases g; exact ⟨.non, by simp [PyData.canLay0], by simp [PyData.depth]⟩
    | bl b => simp only [toP] at h; cases h; cases g; exact ⟨.bl b, by simp [PyData.canLay0], by simp [PyData.depth]⟩
    | int i => simp only [toP] at h; cases h; cases g; exact ⟨.int i, by simp [PyData.canLay0], by simp [PyData.depth]⟩
    | str x =>
      simp only [toP] at h
      split at h
      · rename_i hx; cases h; cases g; exact ⟨.str x, by simpa [PyData.canLay0] using hx, by simp [PyData.depth]⟩
      · cases h
    | tup xs => simp only [toP] at h; cases h
    | ref n => simp only [toP] at h; cases h
  | succ f ih =>
    intro d p v h g
    cases d with
    | non => simp only [toP] at h; cases h; cases g; exact ⟨.non, by simp [PyData.canLay0], by simp [PyData.depth]⟩
    | bl b => simp only [toP] at h; cases h; cases g; exact ⟨.bl b, by simp [PyData.canLay0], by simp [PyData.depth]⟩
    | int i => simp only [toP] at h; cases h; cases g; exact ⟨.int i, by simp [PyData.canLay0], by simp [PyData.depth]⟩
    | str x =>
      simp only [toP] at h
      split at h
      · rename_i hx; cases h; cases g; exact ⟨.str x, by simpa [PyData.canLay0] using hx, by simp [PyData.depth]⟩
      · cases h
    | tup xs =>
      simp only [toP, Option.map_eq_some_iff] at h
      obtain ⟨ps, e, rfl⟩ := h
      cases g with
      | tup hq gs =>
        obtain ⟨a1, a2, a3⟩ := toP_list r ih xs ps _ e gs
        exact ⟨.tup hq a1, by simpa [PyData.canLay0] using a2, by rw [PyData.depth]; omega⟩
    | ref n =>
      simp only [toP, Option.bind_eq_some_iff, Option.map_eq_some_iff] at h
      obtain ⟨xs, e1, ps, e, rfl⟩ := h
      obtain ⟨a, vs, rfl, _, hq, gs⟩ := r.rdL g e1
      obtain ⟨a1, a2, a3⟩ := toP_list r ih xs ps _ e gs
      exact ⟨.lst hq a1, by simpa [PyData.canLay0] using a2, by rw [PyData.depth]; omega⟩
theorem shaped_ok {p : PyData} {f : Nat} (h1 : p.canLay0 = true) (h2 : p.depth ≤ f) (hf : f ≤ 64) : SeqAt.shaped p = true := by
  unfold SeqAt.shaped
  rw [h1, decide_eq_true (Nat.le_trans h2 hf)]
  rfl
end
end My

/-! The operations, by the hand layer's rules. -/
namespace My
open PySem L2

/-- whoever is handed such a value at such a store holds what is wanted -/
def Post (K : PySem.W.Frag) (m : Mp) (H : Hp) (S' : Store) (d : D) (Q : VK) : Prop :=
  ∀ v H' m', Ex m m' H H' → Rep K m' S' H' → IsD K m' H' v d → Q v H'
theorem Post.here {K : PySem.W.Frag} {m : Mp} {H : Hp} {S : Store} {d : D} {Q : VK} (p : Post K m H S d Q) {v : V} (r : Rep K m S H) (h : IsD K m H v d) : Q v H := p v H m .refl r h
theorem Post.grow {K : PySem.W.Frag} {m : Mp} {H H' : Hp} {S : Store} {d : D} {Q : VK} (p : Post K m H S d Q) {v : V} (r : Rep K m S H) (g : ∀ b o, H b = some o → H' b = some o) (h : IsD K m H' v d) : Q v H' := p v H' m (.grow g) (r.grow g) h
/-- a new tuple -/
theorem Post.tup {K : PySem.W.Frag} {m : Mp} {H : Hp} {S : Store} {xs : List D} {vs : List V} {Q : VK} (p : Post K m H S (.tup xs) Q) (r : Rep K m S H) (h : IsDs K m H vs xs) : ∀ a, H a = none → Q (.ref a) (upd H a (.tup vs)) := fun a ha =>
  p.grow r (grow_upd ha) (.tup (.of upd_same) (h.ex (.grow (grow_upd ha))))
/-- a new list -/
theorem Post.new {K : PySem.W.Frag} {m : Mp} {H : Hp} {S : Store} {xs : List D} {vs : List V} {Q : VK} (p : Post K m H (S ++ [.lst xs]) (.ref S.length) Q) (r : Rep K m S H) (h : IsDs K m H vs xs) : ∀ a, H a = none → Q (.ref a) (upd H a (.lst vs)) := fun a ha => by
  obtain ⟨r1, x1⟩ := r.alloc ha h
  exact p _ _ _ x1 r1 (.ref (f := true) (by rw [← r.len]; simp))
/-- a list changed -/
theorem Post.set {K : PySem.W.Frag} {m : Mp} {H : Hp} {S : Store} {n : Nat} {a : Addr} {xs ys : List D} {vs ws : List V} {d : D} {v : V} {Q : VK} (p : Post K m H (S.set n (.lst xs)) d Q) (r : Rep K m S H) (hm : m[n]? = some (a, true)) (hS : S[n]? = some (.lst ys)) (hH : H a = some (.lst ws))
    (h : IsDs K m H vs xs) (hd : IsD K m H v d) : Q v (upd H a (.lst vs)) := by
  obtain ⟨r1, x1⟩ := r.setL hm hS hH h
  exact p _ _ _ x1 r1 (hd.ex x1)

abbrev G2 := D → D → M D
/-- a rule of the layer serves an operation of the evaluator -/
def Op2 (X : Cx) (r : R2) (g : G2) : Prop := ∀ x y a b m S H d S' Q, Rep X.K m S H → IsD X.K m H x a → IsD X.K m H y b → g a b S = .ok d S' → Post X.K m H S' d Q → r x y H Q
def OpS (X : Cx) (f : Value → Value → Sem Value) (g : G2) : Prop := ∃ r, OpR X f r ∧ Op2 X r g
def Cl2 (X : Cx) (r : List V → Hp → VK → Prop) (g : List D → M D) : Prop := ∀ xs as m S H d S' Q, Rep X.K m S H → IsDs X.K m H xs as → g as S = .ok d S' → Post X.K m H S' d Q → r xs H Q
def ClS (X : Cx) (f : Value) (g : List D → M D) : Prop := ∃ r, CallR X f r ∧ Cl2 X r g
def Mt2 (X : Cx) (r : V → List V → Hp → VK → Prop) (g : D → List D → M D) : Prop := ∀ x xs a as m S H d S' Q, Rep X.K m S H → IsD X.K m H x a → IsDs X.K m H xs as → g a as S = .ok d S' → Post X.K m H S' d Q → r x xs H Q
def MtS (X : Cx) (id : String) (g : D → List D → M D) : Prop := ∃ r, MtR X id r ∧ Mt2 X r g

section
variable {X : Cx}
/-! ### arithmetic -/
theorem s_add : OpS X (binaryOp .Add) (bopF .add) := by
  refine ⟨_, op_add.or (op_add_str.or (op_catA.or op_cat)), ?_⟩
  intro x y a b m S H d S' Q r ha hb h p
  cases a with
  | int i =>
    cases b with
    | int j =>
      cases ha; cases hb
      simp only [bopF] at h
      cases h
      exact .inl ⟨i, j, rfl, rfl, p.here r (.int _)⟩
    | _ => simp only [bopF] at h; cases h
  | str i =>
    cases b with
    | str j =>
      cases ha; cases hb
      simp only [bopF] at h
      split at h
      · rename_i hz
        cases h
        exact .inr (.inl ⟨i, j, rfl, rfl, hz, p.here r (.str _)⟩)
      · cases h
    | _ => simp only [bopF] at h; cases h
  | tup xs =>
    cases b with
    | tup ys =>
      cases ha with
      | tup ha hxs =>
        cases hb with
        | tup hb hys =>
          rename_i a1 vs b1 ws
          simp only [bopF] at h
          split at h
          · rename_i hz
            cases h
            refine .inr (.inr (.inl ⟨a1, b1, vs, ws, rfl, rfl, ha, hb, by rw [hxs.length, hys.length]; exact hz, fun e => ?_, fun _ e => ?_, fun _ _ => p.tup r (hxs.append hys)⟩))
            · subst e
              cases hxs
              exact p.here r (.tup hb hys)
            · subst e
              cases hys
              rw [List.append_nil] at p
              exact p.here r (.tup ha hxs)
          · cases h
    | _ => simp only [bopF] at h; cases h
  | ref n =>
    cases b with
    | ref k =>
      simp only [bopF] at h
      split at h
      · rename_i xs ys e1 e2
        split at h
        · rename_i hz
          cases h
          obtain ⟨a1, vs, rfl, h1, _, h2, h3⟩ := r.rdM ha e1
          obtain ⟨b1, ws, rfl, h4, _, h5, h6⟩ := r.rdM hb e2
          exact .inr (.inr (.inr ⟨a1, b1, vs, ws, rfl, rfl, h2, h5, by rw [h3.length, h6.length]; exact hz, p.new r (h3.append h6)⟩))
        · cases h
      · cases h
    | _ => simp only [bopF] at h; cases h
  | _ => simp only [bopF] at h; cases h
theorem s_sub : OpS X (binaryOp .Sub) (bopF .sub) := by
  refine ⟨_, op_sub, ?_⟩
  intro x y a b m S H d S' Q r ha hb h p
  cases a <;> cases b <;> simp only [bopF] at h <;> first
    | cases h; done
    | (cases h; cases ha; cases hb; exact ⟨_, _, rfl, rfl, p.here r (.int _)⟩)
theorem s_mul : OpS X (binaryOp .Mult) (bopF .mul) := by
  refine ⟨_, op_mulW, ?_⟩
  intro x y a b m S H d S' Q r ha hb h p
  cases a <;> cases b <;> simp only [bopF] at h <;> first
    | cases h; done
    | (split at h
       · rename_i hz; cases h; cases ha; cases hb; exact ⟨_, _, rfl, rfl, hz, p.here r (.int _)⟩
       · cases h)
theorem s_fdiv : OpS X (binaryOp .FloorDiv) (bopF .fdiv) := by
  refine ⟨_, op_fdivW, ?_⟩
  intro x y a b m S H d S' Q r ha hb h p
  cases a <;> cases b <;> simp only [bopF] at h <;> first
    | cases h; done
    | (split at h
       · rename_i hz; cases h; cases ha; cases hb; exact ⟨_, _, rfl, rfl, hz, p.here r (.int _)⟩
       · cases h)
theorem s_mod : OpS X (binaryOp .Mod) (bopF .mod) := by
  refine ⟨_, op_mod, ?_⟩
  intro x y a b m S H d S' Q r ha hb h p
  cases a <;> cases b <;> simp only [bopF] at h <;> first
    | cases h; done
    | (split at h
       · rename_i hz; cases h; cases ha; cases hb; exact ⟨_, _, rfl, rfl, hz, p.here r (.int _)⟩
       · cases h)
def bopP : Bop → Operator
  | .add => .Add
  | .sub => .Sub
  | .mul => .Mult
  | .fdiv => .FloorDiv
  | .mod => .Mod
theorem s_bop : ∀ op : Bop, OpS X (binaryOp (bopP op)) (bopF op)
  | .add => s_add
  | .sub => s_sub
  | .mul => s_mul
  | .fdiv => s_fdiv
  | .mod => s_mod

/-! ### comparisons -/
def copG (op : Cop) : G2 := fun a b s => match copF op a b s with
  | some k => .ok (.bl k) s
  | none => .no
theorem eqF_ok {m : Mp} {S : Store} {H : Hp} {x y : V} {a b : D} {k : Bool} (r : Rep X.K m S H) (ha : IsD X.K m H x a) (hb : IsD X.K m H y b) (h : eqF S a b = some k) :
    (scal x y = true ∧ k = decide (x = y)) ∨ (∃ d e, Dp X.K H x d ∧ Dp X.K H y e ∧ SeqAt.shaped d = true ∧ SeqAt.shaped e = true ∧ k = PyData.eqv d e) := by
  have gen : (match toP S 16 a, toP S 16 b with
    | some x, some y => some (PyData.eqv x y)
    | _, _ => none) = some k → ∃ d e, Dp X.K H x d ∧ Dp X.K H y e ∧ SeqAt.shaped d = true ∧ SeqAt.shaped e = true ∧ k = PyData.eqv d e := fun h => by
    split at h
    · rename_i d e e1 e2
      cases h
      obtain ⟨p1, p2, p3⟩ := toP_ok r 16 a d x e1 ha
      obtain ⟨q1, q2, q3⟩ := toP_ok r 16 b e y e2 hb
      exact ⟨d, e, p1, q1, shaped_ok p2 p3 (by decide), shaped_ok q2 q3 (by decide), rfl⟩
    · cases h
  unfold eqF at h
  split at h
  · cases h; cases ha; cases hb; exact .inl ⟨rfl, by simp⟩
  · cases h; cases ha; cases hb; exact .inl ⟨rfl, by simp⟩
  · cases h; cases ha; cases hb; exact .inl ⟨rfl, by simp⟩
  · exact .inr (gen h)
theorem s_eq (hu : X.A.units + 64 < cLine) : OpS X (compareOp .Eq) (copG .eq) := by
  refine ⟨_, op_eq.or (op_eqD hu), ?_⟩
  intro x y a b m S H d S' Q r ha hb h p
  unfold copG at h
  split at h
  · rename_i k e
    cases h
    rcases eqF_ok r ha hb e with ⟨h1, h2⟩ | ⟨d1, d2, h1, h2, h3, h4, h5⟩
    · subst h2
      exact .inl ⟨h1, p.here r (.bl _)⟩
    · subst h5
      exact .inr ⟨d1, d2, h1, h2, h3, h4, p.here r (.bl _)⟩
  · cases h
theorem s_ne (hu : X.A.units + 64 < cLine) : OpS X (compareOp .NotEq) (copG .ne) := by
  refine ⟨_, op_ne.or (op_neD hu), ?_⟩
  intro x y a b m S H d S' Q r ha hb h p
  unfold copG at h
  split at h
  · rename_i k e
    cases h
    simp only [copF, Option.map_eq_some_iff] at e
    obtain ⟨k', e, rfl⟩ := e
    rcases eqF_ok r ha hb e with ⟨h1, h2⟩ | ⟨d1, d2, h1, h2, h3, h4, h5⟩
    · subst h2
      exact .inl ⟨h1, p.here r (.bl _)⟩
    · subst h5
      exact .inr ⟨d1, d2, h1, h2, h3, h4, p.here r (.bl _)⟩
  · cases h
theorem s_lt : OpS X (compareOp .Lt) (copG .lt) := by
  refine ⟨_, op_lt, ?_⟩
  intro x y a b m S H d S' Q r ha hb h p
  cases a <;> cases b <;> simp only [copG, copF] at h <;> first
    | cases h; done
    | (cases h; cases ha; cases hb; exact ⟨_, _, rfl, rfl, p.here r (.bl _)⟩)
theorem s_le : OpS X (compareOp .LtE) (copG .le) := by
  refine ⟨_, op_le, ?_⟩
  intro x y a b m S H d S' Q r ha hb h p
  cases a <;> cases b <;> simp only [copG, copF] at h <;> first
    | cases h; done
    | (cases h; cases ha; cases hb; exact ⟨_, _, rfl, rfl, p.here r (.bl _)⟩)
theorem s_gt : OpS X (compareOp .Gt) (copG .gt) := by
  refine ⟨_, op_gt, ?_⟩
  intro x y a b m S H d S' Q r ha hb h p
  cases a <;> cases b <;> simp only [copG, copF] at h <;> first
    | cases h; done
    | (cases h; cases ha; cases hb; exact ⟨_, _, rfl, rfl, p.here r (.bl _)⟩)
theorem s_ge : OpS X (compareOp .GtE) (copG .ge) := by
  refine ⟨_, op_ge, ?_⟩
  intro x y a b m S H d S' Q r ha hb h p
  cases a <;> cases b <;> simp only [copG, copF] at h <;> first
    | cases h; done
    | (cases h; cases ha; cases hb; exact ⟨_, _, rfl, rfl, p.here r (.bl _)⟩)
theorem isD_non {K : PySem.W.Frag} {m : Mp} {H : Hp} {x : V} {a : D} (h : IsD K m H x a) (hn : a ≠ .non) : x ≠ .non := by
  cases h <;> first | exact absurd rfl hn | exact fun z => nomatch z
theorem s_isN : OpS X (compareOp .Is) (copG .isN) := by
  refine ⟨_, op_isN, ?_⟩
  intro x y a b m S H d S' Q r ha hb h p
  cases b with
  | non =>
    cases hb
    by_cases hn : a = .non
    · subst hn
      cases ha
      simp only [copG, copF] at h
      cases h
      exact ⟨rfl, p.here r (.bl _)⟩
    · have hx := isD_non ha hn
      have e : copF .isN a .non S = some false := by
        cases a <;> first | exact absurd rfl hn | rfl
      simp only [copG, e] at h
      cases h
      refine ⟨rfl, ?_⟩
      rw [decide_eq_false hx]
      exact p.here r (.bl _)
  | _ => cases a <;> simp only [copG, copF] at h <;> cases h
theorem s_notN : OpS X (compareOp .IsNot) (copG .notN) := by
  refine ⟨_, op_notN, ?_⟩
  intro x y a b m S H d S' Q r ha hb h p
  cases b with
  | non =>
    cases hb
    by_cases hn : a = .non
    · subst hn
      cases ha
      simp only [copG, copF] at h
      cases h
      exact ⟨rfl, p.here r (.bl _)⟩
    · have hx := isD_non ha hn
      have e : copF .notN a .non S = some true := by
        cases a <;> first | exact absurd rfl hn | rfl
      simp only [copG, e] at h
      cases h
      refine ⟨rfl, ?_⟩
      rw [decide_eq_false hx]
      exact p.here r (.bl _)
  | _ => cases a <;> simp only [copG, copF] at h <;> cases h
theorem flat_ok {K : PySem.W.Frag} {m : Mp} {H : Hp} {x : V} {a : D} (h : IsD K m H x a) (hf : flatD a = true) : flatV x = true := by
  cases h <;> first | rfl | cases hf
theorem flat_all {K : PySem.W.Frag} {m : Mp} {H : Hp} : ∀ {xs : List V} {as : List D}, IsDs K m H xs as → as.all flatD = true → xs.all flatV = true
  | _, _, .nil, _ => rfl
  | _, _, .cons h hs, f => by
    rw [List.all_cons, Bool.and_eq_true] at f
    rw [List.all_cons, flat_ok h f.1, flat_all hs f.2]; rfl
theorem eqFlat_ok {K : PySem.W.Frag} {m : Mp} {H : Hp} {x y : V} {a b : D} (ha : IsD K m H x a) (hb : IsD K m H y b) (fa : flatD a = true) (fb : flatD b = true) : eqV x y = eqFlat a b := by
  cases ha <;> first | (cases fa; done) | (cases hb <;> first | (cases fb; done) | rfl)
theorem anyFlat_ok {K : PySem.W.Frag} {m : Mp} {H : Hp} {x : V} {a : D} (ha : IsD K m H x a) (fa : flatD a = true) : ∀ {xs : List V} {as : List D}, IsDs K m H xs as → as.all flatD = true → inV x xs = as.any fun z => eqFlat z a
  | _, _, .nil, _ => rfl
  | _, _, .cons h hs, f => by
    rw [List.all_cons, Bool.and_eq_true] at f
    have e := anyFlat_ok ha fa hs f.2
    unfold inV at e ⊢
    rw [List.any_cons, List.any_cons, e, eqFlat_ok h ha f.1 fa]
theorem seqOf_ok {m : Mp} {S : Store} {H : Hp} {y : V} {b : D} {ys : List D} (r : Rep X.K m S H) (hb : IsD X.K m H y b) (h : seqOf S b = some ys) : ∃ p vs, y = .ref p ∧ (SqL X.K H p vs ∨ SqT X.K H p vs) ∧ IsDs X.K m H vs ys := by
  cases b with
  | tup zs =>
    cases h
    cases hb with
    | tup h1 h2 => exact ⟨_, _, rfl, .inr h1, h2⟩
  | ref n =>
    obtain ⟨a, vs, rfl, _, h1, h2⟩ := r.rdL hb h
    exact ⟨a, vs, rfl, .inl h1, h2⟩
  | _ => cases h
theorem inF_ok {m : Mp} {S : Store} {H : Hp} {x y : V} {a b : D} {k : Bool} (r : Rep X.K m S H) (ha : IsD X.K m H x a) (hb : IsD X.K m H y b) (h : inF S a b = some k) :
    ∃ p vs, y = .ref p ∧ (SqL X.K H p vs ∨ SqT X.K H p vs) ∧ flatV x = true ∧ vs.all flatV = true ∧ k = inV x vs := by
  unfold inF at h
  split at h
  · rename_i ys e
    split at h
    · rename_i f
      rw [Bool.and_eq_true] at f
      cases h
      obtain ⟨p, vs, rfl, h1, h2⟩ := seqOf_ok r hb e
      exact ⟨p, vs, rfl, h1, flat_ok ha f.1, flat_all h2 f.2, (anyFlat_ok ha f.1 h2 f.2).symm⟩
    · cases h
  · cases h
theorem s_in : OpS X (compareOp .In) (copG .in_) := by
  refine ⟨_, op_in_seq, ?_⟩
  intro x y a b m S H d S' Q r ha hb h p
  unfold copG at h
  split at h
  · rename_i k e
    cases h
    obtain ⟨q, vs, rfl, h1, h2, h3, rfl⟩ := inF_ok r ha hb e
    exact ⟨q, vs, rfl, h1, h2, h3, p.here r (.bl _)⟩
  · cases h
theorem s_notin : OpS X (compareOp .NotIn) (copG .notin) := by
  refine ⟨_, op_notIn_seq, ?_⟩
  intro x y a b m S H d S' Q r ha hb h p
  unfold copG at h
  split at h
  · rename_i k e
    cases h
    simp only [copF, Option.map_eq_some_iff] at e
    obtain ⟨k', e, rfl⟩ := e
    obtain ⟨q, vs, rfl, h1, h2, h3, rfl⟩ := inF_ok r ha hb e
    exact ⟨q, vs, rfl, h1, h2, h3, p.here r (.bl _)⟩
  · cases h
def copP : Cop → CmpOp
  | .eq => .Eq
  | .ne => .NotEq
  | .lt => .Lt
  | .le => .LtE
  | .gt => .Gt
  | .ge => .GtE
  | .isN => .Is
  | .notN => .IsNot
  | .in_ => .In
  | .notin => .NotIn
theorem s_cop (hu : X.A.units + 64 < cLine) : ∀ op : Cop, OpS X (compareOp (copP op)) (copG op)
  | .eq => s_eq hu
  | .ne => s_ne hu
  | .lt => s_lt
  | .le => s_le
  | .gt => s_gt
  | .ge => s_ge
  | .isN => s_isN
  | .notN => s_notN
  | .in_ => s_in
  | .notin => s_notin

/-! ### subscripts, slices -/
theorem cutV_cutD {K : PySem.W.Frag} {m : Mp} {H : Hp} {vs : List V} {xs : List D} (h : IsDs K m H vs xs) (lo hi : Option Int) : IsDs K m H (cutV vs lo hi) (cutD xs lo hi) := by
  unfold cutV cutD
  rw [h.length]
  exact (h.drop _).take _
theorem atI_ok {K : PySem.W.Frag} {m : Mp} {H : Hp} {vs : List V} {xs : List D} (h : IsDs K m H vs xs) {i : Int} {d : D} (e : atI xs i = some d) : ∃ v, atI vs i = some v ∧ IsD K m H v d := by
  unfold atI at e ⊢
  rw [h.length]
  cases q : ixN xs.length i with
  | none => rw [q] at e; cases e
  | some j =>
    rw [q] at e
    exact h.get (i := j) e
def IxS (X : Cx) (g : G2) : Prop := ∃ r, IxR X r ∧ Op2 X r g
theorem s_ix : IxS X idxF := by
  refine ⟨_, ix_seq, ?_⟩
  intro x y a b m S H d S' Q r ha hb h p
  cases b with
  | int k =>
    cases hb
    cases a with
    | tup xs =>
      simp only [idxF] at h
      split at h
      · rename_i e
        cases h
        cases ha with
        | tup h1 h2 =>
          obtain ⟨v, e1, e2⟩ := atI_ok h2 e
          exact .inr (.inl ⟨_, _, k, v, rfl, rfl, h1, e1, p.here r e2⟩)
      · cases h
    | ref n =>
      simp only [idxF] at h
      split at h
      · rename_i e
        cases h
        simp only [Option.bind_eq_some_iff] at e
        obtain ⟨xs, e0, e⟩ := e
        obtain ⟨q, vs, rfl, _, h1, h2⟩ := r.rdL ha e0
        obtain ⟨v, e1, e2⟩ := atI_ok h2 e
        exact .inl ⟨_, _, k, v, rfl, rfl, h1, e1, p.here r e2⟩
      · cases h
    | str z =>
      simp only [idxF] at h
      split at h
      · rename_i hz
        split at h
        · rename_i c e
          cases h
          cases ha
          exact .inr (.inr ⟨z, k, c, rfl, rfl, hz, e, p.here r (.str _)⟩)
        · cases h
      · cases h
    | _ => simp only [idxF] at h; cases h
  | _ => cases a <;> simp only [idxF] at h <;> cases h
def Sl2 (X : Cx) (r : V → Option Int → Option Int → Hp → VK → Prop) (g : D → Option Int → Option Int → M D) : Prop := ∀ x a lo hi m S H d S' Q, Rep X.K m S H → IsD X.K m H x a → g a lo hi S = .ok d S' → Post X.K m H S' d Q → r x lo hi H Q
def SlS (X : Cx) (g : D → Option Int → Option Int → M D) : Prop := ∃ r, SlR X r ∧ Sl2 X r g
theorem cutD_whole {xs : List D} {lo hi : Option Int} (h : HT.sIx xs.length 0 lo = 0 ∧ HT.sIx xs.length xs.length hi = xs.length) : cutD xs lo hi = xs := by
  unfold cutD
  rw [h.1, h.2]
  simp
theorem s_slc : SlS X slcF := by
  refine ⟨_, sl_tupA.or sl_list, ?_⟩
  intro x a lo hi m S H d S' Q r ha h p
  cases a with
  | tup xs =>
    simp only [slcF] at h
    cases h
    cases ha with
    | tup h1 h2 =>
      rename_i q vs
      refine .inl ⟨q, vs, rfl, h1, fun hw => ?_, fun _ => p.tup r (cutV_cutD h2 lo hi)⟩
      rw [h2.length] at hw
      rw [cutD_whole hw] at p
      exact p.here r (.tup h1 h2)
  | ref n =>
    simp only [slcF] at h
    split at h
    · rename_i xs e
      cases h
      obtain ⟨q, vs, rfl, _, h1, h2⟩ := r.rdL ha e
      exact .inr ⟨q, vs, rfl, h1, p.new r (cutV_cutD h2 lo hi)⟩
    · cases h
  | _ => simp only [slcF] at h; cases h
end
end My

/-! Built-in functions and methods, isinstance, truth. -/
namespace My
open PySem L2
section
variable {X : Cx}
theorem isDs1 {K : PySem.W.Frag} {m : Mp} {H : Hp} {xs : List V} {a : D} (h : IsDs K m H xs [a]) : ∃ v, xs = [v] ∧ IsD K m H v a := by
  cases h with
  | cons h hs => cases hs; exact ⟨_, rfl, h⟩
theorem isDs0 {K : PySem.W.Frag} {m : Mp} {H : Hp} {xs : List V} (h : IsDs K m H xs []) : xs = [] := by
  cases h; rfl
def Cl1 (X : Cx) (r : List V → Hp → VK → Prop) (g : G1) : Prop := ∀ x a m S H d S' Q, Rep X.K m S H → IsD X.K m H x a → g a S = .ok d S' → Post X.K m H S' d Q → r [x] H Q
theorem Cl1.two {r : List V → Hp → VK → Prop} {g : G1} (h : Cl1 X r g) : Cl2 X r (one g) := by
  intro xs as m S H d S' Q rp hs e p
  unfold one at e
  split at e
  · obtain ⟨v, rfl, hv⟩ := isDs1 hs
    exact h v _ m S H d S' Q rp hv e p
  · cases e
theorem c_len : ClS X (.builtin "len") (one lenF) := by
  refine ⟨_, call_len, Cl1.two ?_⟩
  intro x a m S H d S' Q r hv h p
  cases a with
  | str y =>
    simp only [lenF] at h
    cases hv
    split at h
    · rename_i hz
      cases h
      exact ⟨_, _, rfl, ⟨hz, rfl⟩, p.here r (.int _)⟩
    · cases h
  | tup ys =>
    simp only [lenF] at h
    cases h
    cases hv with
    | tup h1 h2 => exact ⟨_, _, rfl, .inr ⟨_, h1, rfl⟩, by rw [h2.length]; exact p.here r (.int _)⟩
  | ref n =>
    simp only [lenF] at h
    split at h
    · rename_i ys e
      cases h
      obtain ⟨a, vs, rfl, _, h1, h2⟩ := r.rdL hv e
      exact ⟨_, _, rfl, .inl ⟨_, h1, rfl⟩, by rw [h2.length]; exact p.here r (.int _)⟩
    · cases h
  | _ => simp only [lenF] at h; cases h
theorem c_int : ClS X (.type "int") (one intF) := by
  refine ⟨_, call_int1, Cl1.two ?_⟩
  intro x a m S H d S' Q r hv h p
  cases a with
  | int i => simp only [intF] at h; cases h; cases hv; exact .inl ⟨_, rfl, p.here r (.int _)⟩
  | bl k => simp only [intF] at h; cases h; cases hv; exact .inr ⟨_, rfl, p.here r (.int _)⟩
  | _ => simp only [intF] at h; cases h
theorem c_str : ClS X (.type "str") (one strF) := by
  refine ⟨_, call_str_int, Cl1.two ?_⟩
  intro x a m S H d S' Q r hv h p
  cases a with
  | int i =>
    simp only [strF] at h
    split at h
    · rename_i hz
      cases h
      cases hv
      exact ⟨i, rfl, hz, p.here r (.str _)⟩
    · cases h
  | _ => simp only [strF] at h; cases h
theorem c_abs : ClS X (.builtin "abs") (one absF) := by
  refine ⟨_, call_abs, Cl1.two ?_⟩
  intro x a m S H d S' Q r hv h p
  cases a with
  | int i => simp only [absF] at h; cases h; cases hv; exact ⟨i, rfl, p.here r (.int _)⟩
  | _ => simp only [absF] at h; cases h
theorem c_tuple : ClS X (.type "tuple") (one tupleF) := by
  refine ⟨_, call_tuple_of.or call_tupleT, Cl1.two ?_⟩
  intro x a m S H d S' Q r hv h p
  cases a with
  | tup ys =>
    simp only [tupleF] at h
    cases h
    cases hv with
    | tup h1 h2 => exact .inr ⟨_, _, rfl, h1, p.here r (.tup h1 h2)⟩
  | ref n =>
    simp only [tupleF] at h
    split at h
    · rename_i ys e
      cases h
      obtain ⟨a, vs, rfl, _, h1, h2⟩ := r.rdL hv e
      exact .inl ⟨_, _, rfl, .inl ⟨h1, p.tup r h2⟩⟩
    · cases h
  | _ => simp only [tupleF] at h; cases h
theorem vals_of_at : ∀ {xs : List V} {us : List Value}, xs.length = us.length → (∀ (j : Nat) (x : V) (u : Value), xs[j]? = some x → us[j]? = some u → RelV x u) → Vals xs us
  | [], [], _, _ => .nil
  | [], _ :: _, h, _ => by simp at h
  | _ :: _, [], h, _ => by simp at h
  | x :: xs, u :: us, h, f => .cons (f 0 x u rfl rfl) (vals_of_at (by simpa using h) fun j y w h1 h2 => f (j + 1) y w (by simpa using h1) (by simpa using h2))
def signsV (x : Str) : List V := x.cps.toList.map fun c => .str ⟨#[c]⟩
theorem call_list_signs (hc : X.calm = true) : CallR X (.type "list") (fun xs H Q => ∃ x, xs = [.str x] ∧ x.cps.size ≤ sizeLine ∧ ∀ l, H l = none → Q (.ref l) (upd H l (.lst (signsV x)))) := by
  intro pins s σ H xs us Q I r h
  obtain ⟨x, rfl, hz, q⟩ := h
  obtain ⟨u, rfl, rx⟩ := vals1 r
  obtain ⟨t, rfl⟩ := rx
  refine PySem.call_list_str (I.ok.hd hc) x t (hn := hz) fun h' tk acc' c' hk hS hacc => ?_
  refine ⟨.ref s.heap.objs.size, upd H s.heap.objs.size (.lst (signsV x)), I.laid hk (Nat.le_refl _) (show ObjOk X.prog X.w _ _ _ (.lst (signsV x)) from ⟨by unfold signsV; simpa using hz, acc'.toList, c', ?_, by simpa using hS⟩), rfl, q _ (I.hok.fresh (Nat.le_refl _))⟩
  refine vals_of_at (by unfold signsV; simp [hacc.1]) fun j v w h1 h2 => ?_
  obtain ⟨c, u, hc', rfl⟩ := hacc.2 j w (by rw [← Array.getElem?_toList]; exact h2)
  unfold signsV at h1
  rw [List.getElem?_map, Array.getElem?_toList, hc'] at h1
  cases h1
  exact ⟨u, rfl⟩
theorem isDs_signs {K : PySem.W.Frag} {m : Mp} {H : Hp} (x : Str) : IsDs K m H (signsV x) (signsD x) := by
  unfold signsV signsD
  generalize x.cps.toList = l
  induction l with
  | nil => exact .nil
  | cons c l ih => exact .cons (.str _) ih
theorem c_list (hc : X.calm = true) : ClS X (.type "list") (one listF) := by
  refine ⟨_, call_list_of.or (call_list_signs hc), Cl1.two ?_⟩
  intro x a m S H d S' Q r hv h p
  cases a with
  | tup ys =>
    simp only [listF] at h
    cases h
    cases hv with
    | tup h1 h2 => exact .inl ⟨_, _, rfl, .inr h1, p.new r h2⟩
  | ref n =>
    simp only [listF] at h
    split at h
    · rename_i ys e
      cases h
      obtain ⟨a, vs, rfl, _, h1, h2⟩ := r.rdL hv e
      exact .inl ⟨_, _, rfl, .inl h1, p.new r h2⟩
    · cases h
  | str y =>
    simp only [listF] at h
    split at h
    · rename_i hz
      cases h
      cases hv
      exact .inr ⟨y, rfl, hz, p.new r (isDs_signs y)⟩
    · cases h
  | _ => simp only [listF] at h; cases h
theorem ovI_ok {r : List V → Hp → VK → Prop} {f : List Int → Option D}
    (h : ∀ a is m S H d Q, Rep X.K m S H → SqL X.K H a (is.map V.int) → f is = some d → Post X.K m H S d Q → r [.ref a] H Q) : Cl1 X r (ovI f) := by
  intro x a m S H d S' Q rp hv e p
  cases a with
  | ref n =>
    simp only [ovI] at e
    split at e
    · rename_i d' e1
      cases e
      simp only [Option.bind_eq_some_iff] at e1
      obtain ⟨is, ⟨xs, e2, e3⟩, e4⟩ := e1
      obtain ⟨a, vs, rfl, _, h1, h2⟩ := rp.rdL hv e2
      rw [intsOf_eq e3] at h2
      rw [h2.ints] at h1
      exact h a is m S H d Q rp h1 e4 p
    · cases e
  | _ => simp only [ovI] at e; cases e
theorem ovB_ok {r : List V → Hp → VK → Prop} {f : List Bool → D}
    (h : ∀ a is m S H Q, Rep X.K m S H → SqL X.K H a (is.map V.bl) → Post X.K m H S (f is) Q → r [.ref a] H Q) : Cl1 X r (ovB f) := by
  intro x a m S H d S' Q rp hv e p
  cases a with
  | ref n =>
    simp only [ovB] at e
    split at e
    · rename_i bs e1
      cases e
      simp only [Option.bind_eq_some_iff] at e1
      obtain ⟨xs, e2, e3⟩ := e1
      obtain ⟨a, vs, rfl, _, h1, h2⟩ := rp.rdL hv e2
      rw [blsOf_eq e3] at h2
      rw [h2.bls] at h1
      exact h a bs m S H Q rp h1 p
    · cases e
  | _ => simp only [ovB] at e; cases e
theorem maxI_ok : ∀ {is : List Int} {k : Int}, maxI is = some k → k ∈ is ∧ ∀ y ∈ is, y ≤ k
  | [], _, h => by cases h
  | [x], _, h => by cases h; simp
  | x :: y :: r, k, h => by
    simp only [maxI, Option.map_eq_some_iff] at h
    obtain ⟨m, e, rfl⟩ := h
    obtain ⟨h1, h2⟩ := maxI_ok (is := y :: r) e
    split
    · rename_i hm
      refine ⟨by simp, fun z hz => ?_⟩
      rcases List.mem_cons.mp hz with rfl | hz
      · exact Int.le_refl _
      · exact Int.le_trans (h2 z hz) hm
    · refine ⟨List.mem_cons_of_mem _ h1, fun z hz => ?_⟩
      rcases List.mem_cons.mp hz with rfl | hz
      · omega
      · exact h2 z hz
theorem minI_ok : ∀ {is : List Int} {k : Int}, minI is = some k → k ∈ is ∧ ∀ y ∈ is, k ≤ y
  | [], _, h => by cases h
  | [x], _, h => by cases h; simp
  | x :: y :: r, k, h => by
    simp only [minI, Option.map_eq_some_iff] at h
    obtain ⟨m, e, rfl⟩ := h
    obtain ⟨h1, h2⟩ := minI_ok (is := y :: r) e
    split
    · rename_i hm
      refine ⟨by simp, fun z hz => ?_⟩
      rcases List.mem_cons.mp hz with rfl | hz
      · exact Int.le_refl _
      · exact Int.le_trans hm (h2 z hz)
    · refine ⟨List.mem_cons_of_mem _ h1, fun z hz => ?_⟩
      rcases List.mem_cons.mp hz with rfl | hz
      · omega
      · exact h2 z hz
theorem c_max (hc : X.calm = true) : ClS X (.builtin "max") (one maxF) := by
  refine ⟨_, cr_max hc, Cl1.two (ovI_ok fun a is m S H d Q r hs e p => ?_)⟩
  simp only [Option.map_eq_some_iff] at e
  obtain ⟨k, e, rfl⟩ := e
  obtain ⟨h1, h2⟩ := maxI_ok e
  refine ⟨a, is, rfl, hs, List.length_pos_of_mem h1, fun k' h3 h4 => ?_⟩
  have : k' = k := Int.le_antisymm (h2 _ h3) (h4 _ h1)
  subst this
  exact p.here r (.int _)
theorem c_min (hc : X.calm = true) : ClS X (.builtin "min") (one minF) := by
  refine ⟨_, cr_min hc, Cl1.two (ovI_ok fun a is m S H d Q r hs e p => ?_)⟩
  simp only [Option.map_eq_some_iff] at e
  obtain ⟨k, e, rfl⟩ := e
  obtain ⟨h1, h2⟩ := minI_ok e
  refine ⟨a, is, rfl, hs, List.length_pos_of_mem h1, fun k' h3 h4 => ?_⟩
  have : k' = k := Int.le_antisymm (h4 _ h1) (h2 _ h3)
  subst this
  exact p.here r (.int _)
theorem c_sum (hc : X.calm = true) : ClS X (.builtin "sum") (one sumF) := by
  refine ⟨_, cr_sum hc, Cl1.two (ovI_ok fun a is m S H d Q r hs e p => ?_)⟩
  cases e
  exact ⟨a, is, rfl, hs, p.here r (.int _)⟩
theorem c_any (hc : X.calm = true) : ClS X (.builtin "any") (one anyF) :=
  ⟨_, cr_any hc, Cl1.two (ovB_ok fun a is m S H Q r hs p => ⟨a, is, rfl, hs, p.here r (.bl _)⟩)⟩
theorem c_all (hc : X.calm = true) : ClS X (.builtin "all") (one allF) :=
  ⟨_, cr_all hc, Cl1.two (ovB_ok fun a is m S H Q r hs p => ⟨a, is, rfl, hs, p.here r (.bl _)⟩)⟩
/-- a built-in's value, its name -/
def bltV : Blt → Value
  | .len => .builtin "len"
  | .int => .type "int"
  | .str => .type "str"
  | .abs => .builtin "abs"
  | .tuple => .type "tuple"
  | .list => .type "list"
  | .minL => .builtin "min"
  | .maxL => .builtin "max"
  | .sumL => .builtin "sum"
  | .any => .builtin "any"
  | .all => .builtin "all"
def bltN : Blt → String
  | .len => "len"
  | .int => "int"
  | .str => "str"
  | .abs => "abs"
  | .tuple => "tuple"
  | .list => "list"
  | .minL => "min"
  | .maxL => "max"
  | .sumL => "sum"
  | .any => "any"
  | .all => "all"
theorem c_blt (hc : X.calm = true) : ∀ b : Blt, ClS X (bltV b) (bltF b)
  | .len => c_len
  | .int => c_int
  | .str => c_str
  | .abs => c_abs
  | .tuple => c_tuple
  | .list => c_list hc
  | .minL => c_min hc
  | .maxL => c_max hc
  | .sumL => c_sum hc
  | .any => c_any hc
  | .all => c_all hc

/-! ### methods -/
theorem m_append : MtS X "list.append" appendF := by
  refine ⟨rAppend, mt_append, ?_⟩
  intro x xs a as m S H d S' Q r ha hs h p
  cases a with
  | ref n =>
    cases as with
    | nil => simp only [appendF] at h; cases h
    | cons b bs =>
      cases bs with
      | cons _ _ => simp only [appendF] at h; cases h
      | nil =>
        simp only [appendF] at h
        split at h
        · rename_i ys e
          split at h
          · rename_i hz
            cases h
            obtain ⟨v, rfl, hv⟩ := isDs1 hs
            obtain ⟨q, vs, rfl, h1, h2, h3, h4⟩ := r.rdM ha e
            exact ⟨q, vs, v, rfl, rfl, h3, by rw [h4.length]; exact hz, p.set r h1 h2 h3 (h4.append (.cons hv .nil)) .non⟩
          · cases h
        · cases h
  | _ => cases as <;> simp only [appendF] at h <;> cases h
theorem m_pop : MtS X "list.pop" popF := by
  refine ⟨rPop, mt_pop, ?_⟩
  intro x xs a as m S H d S' Q r ha hs h p
  cases a with
  | ref n =>
    cases as with
    | cons _ _ => simp only [popF] at h; cases h
    | nil =>
      simp only [popF] at h
      split at h
      · rename_i ys e
        split at h
        · rename_i y ey
          cases h
          obtain ⟨q, vs, rfl, h1, h2, h3, h4⟩ := r.rdM ha e
          obtain ⟨v, e1, e2⟩ := h4.get ey
          exact ⟨q, vs, v, rfl, isDs0 hs, h3, by rw [h4.length]; exact e1, p.set r h1 h2 h3 h4.dropLast e2⟩
        · cases h
      · cases h
  | _ => cases as <;> simp only [popF] at h <;> cases h
theorem m_pop0 : MtS X "list.pop" pop0F := by
  refine ⟨rPopAt, mt_popAt, ?_⟩
  intro x xs a as m S H d S' Q r ha hs h p
  unfold pop0F at h
  split at h
  · rename_i n
    split at h
    · rename_i y ys e
      cases h
      obtain ⟨v, rfl, hv⟩ := isDs1 hs
      cases hv
      obtain ⟨q, vs, rfl, h1, h2, h3, h4⟩ := r.rdM ha e
      cases h4 with
      | cons g1 g2 =>
        rename_i w ws
        refine ⟨q, w :: ws, 0, 0, w, rfl, rfl, h3, by decide, by decide, ?_, rfl, p.set r h1 h2 h3 g2 g1⟩
        exact PySem.StrLaws.seqIndex_nonneg (Int.le_refl 0) (by simp only [List.length_cons]; omega)
    · cases h
  · cases h
theorem m_reverse : MtS X "list.reverse" reverseF := by
  refine ⟨rReverse, mt_reverse, ?_⟩
  intro x xs a as m S H d S' Q r ha hs h p
  cases a with
  | ref n =>
    cases as with
    | cons _ _ => simp only [reverseF] at h; cases h
    | nil =>
      simp only [reverseF] at h
      split at h
      · rename_i ys e
        cases h
        obtain ⟨q, vs, rfl, h1, h2, h3, h4⟩ := r.rdM ha e
        exact ⟨q, vs, rfl, isDs0 hs, h3, p.set r h1 h2 h3 h4.reverse .non⟩
      · cases h
  | _ => cases as <;> simp only [reverseF] at h <;> cases h
theorem m_clear : MtS X "list.clear" clearF := by
  refine ⟨rClear, mt_clear, ?_⟩
  intro x xs a as m S H d S' Q r ha hs h p
  cases a with
  | ref n =>
    cases as with
    | cons _ _ => simp only [clearF] at h; cases h
    | nil =>
      simp only [clearF] at h
      split at h
      · rename_i ys e
        cases h
        obtain ⟨q, vs, rfl, h1, h2, h3, h4⟩ := r.rdM ha e
        exact ⟨q, vs, rfl, isDs0 hs, h3, p.set r h1 h2 h3 .nil .non⟩
      · cases h
  | _ => cases as <;> simp only [clearF] at h <;> cases h
theorem m_join : MtS X "str.join" joinF := by
  refine ⟨_, mt_join, ?_⟩
  intro x xs a as m S H d S' Q r ha hs h p
  cases a with
  | str z =>
    cases as with
    | nil => simp only [joinF] at h; cases h
    | cons b bs =>
      cases bs with
      | cons _ _ => simp only [joinF] at h; cases h
      | nil =>
        simp only [joinF] at h
        split at h
        · rename_i ys e
          split at h
          · rename_i hz
            cases h
            cases ha
            obtain ⟨v, rfl, hv⟩ := isDs1 hs
            simp only [Option.bind_eq_some_iff] at e
            obtain ⟨zs, e1, e2⟩ := e
            obtain ⟨q, vs, rfl, h1, h2⟩ := seqOf_ok r hv e1
            rw [strsOf_eq e2] at h2
            rw [h2.strs] at h1
            exact ⟨z, q, ys, rfl, rfl, h1, hz, by rw [TL.join_eq]; exact p.here r (.str _)⟩
          · cases h
        · cases h
  | _ => cases as <;> simp only [joinF] at h <;> cases h
theorem str2 {K : PySem.W.Frag} {m : Mp} {H : Hp} {xs : List V} {b : Str} (h : IsDs K m H xs [.str b]) : xs = [.str b] := by
  obtain ⟨v, rfl, hv⟩ := isDs1 h
  cases hv; rfl
theorem m_split : MtS X "str.split" splitF := by
  refine ⟨_, mt_split, ?_⟩
  intro x xs a as m S H d S' Q r ha hs h p
  unfold splitF at h
  split at h
  · rename_i z y
    split at h
    · rename_i hz
      cases h
      cases ha
      exact ⟨z, y, rfl, str2 hs, hz.1, hz.2, p.new r (IsDs.ofStrs _)⟩
    · cases h
  · cases h
theorem m_find : MtS X "str.find" findF := by
  refine ⟨_, mt_find, ?_⟩
  intro x xs a as m S H d S' Q r ha hs h p
  unfold findF at h
  split at h
  · rename_i z y
    cases h
    cases ha
    exact ⟨z, y, rfl, str2 hs, p.here r (.int _)⟩
  · cases h
theorem m_startswith : MtS X "str.startswith" startswithF := by
  refine ⟨_, mt_startswith, ?_⟩
  intro x xs a as m S H d S' Q r ha hs h p
  unfold startswithF at h
  split at h
  · rename_i z y
    cases h
    cases ha
    exact ⟨z, y, rfl, str2 hs, p.here r (.bl _)⟩
  · cases h
theorem m_partition : MtS X "str.partition" partitionF := by
  refine ⟨_, mt_partition, ?_⟩
  intro x xs a as m S H d S' Q r ha hs h p
  unfold partitionF at h
  split at h
  · rename_i z y
    split at h
    · rename_i hz
      cases h
      cases ha
      exact ⟨z, y, rfl, str2 hs, hz.1, hz.2, p.tup r (.cons (.str _) (.cons (.str _) (.cons (.str _) .nil)))⟩
    · cases h
  · cases h
end
end My

/-! The look: a piece of the text is a piece of the own syntax. -/
namespace My
open PySem L2
/-- what is known where a piece stands: the slots' names, the block's names, which cells are the block's own -/
structure Sta where
  N : List Str
  sc : Scope
  fnb : Str → Bool
def dbg (x : Str) : Bool := x == ("__debug__" : Str)
def visB (sc : Scope) (x : Str) : Bool := match sc.names.lookup x with
  | some .local => true
  | some .cell => true
  | some .free => true
  | _ => false
def glB (sc : Scope) (x : Str) : Bool := match sc.names.lookup x with
  | some .globalImplicit => true
  | _ => false
def litC : D → Const → Bool
  | .non, .none => true
  | .bl b, .bool c => b == c
  | .int i, .int j => decide (i = j)
  | .str x, .str y => decide (x = y)
  | _, _ => false
def tyN : Ty → String
  | .int => "int"
  | .bool => "bool"
  | .str => "str"
  | .tuple => "tuple"
  | .list => "list"
def mthN : Mth → String
  | .append => "append"
  | .pop => "pop"
  | .popAt => "pop"
  | .reverse => "reverse"
  | .clear => "clear"
  | .join => "join"
  | .split => "split"
  | .find => "find"
  | .partition => "partition"
  | .startswith => "startswith"
def notSet : Expr → Bool
  | .Set _ _ _ => false
  | _ => true
/-- no call of a name without arguments -/
def plainO : Expr → Bool
  | .Call (.Name _ _) [] [] _ => false
  | _ => true
def notStar : Expr → Bool
  | .Starred _ _ => false
  | _ => true
/-- no slice, and no comprehension of one's own -/
def plainI : Expr → Bool
  | .Slice _ _ _ _ => false
  | _ => true
def locB (st : Sta) (x : Str) : Bool := match st.sc.names.lookup x with
  | some .local => true
  | some .cell => st.fnb x
  | _ => false
mutual
def chkT : T → Sta → Expr → Bool
  | .name i, st, .Name x _ => decide (st.N[i]? = some x) && locB st x
  | .tup ts, st, .Tuple es _ _ => chkTs ts st es
  | _, _, _ => false
def chkTs : List T → Sta → List Expr → Bool
  | [], _, [] => true
  | t :: ts, st, e :: es => chkT t st e && chkTs ts st es
  | _, _, _ => false
end
def chkTy : List Ty → Scope → List Expr → Bool
  | [], _, [] => true
  | t :: ts, sc, .Name x _ :: es => decide (x = Str.ofString (tyN t)) && glB sc x && chkTy ts sc es
  | _, _, _ => false
def isTup : Expr → Bool
  | .Tuple _ _ _ => true
  | _ => false
/-- the slots that a target stores -/
def tgI : T → List Nat
  | .name i => [i]
  | .tup ts => go ts
where go : List T → List Nat
  | [] => []
  | t :: ts => tgI t ++ go ts
def blkS (st : Sta) (scope : Scope) : Sta := ⟨st.N, relS scope st.sc, fun x => scope.names.lookup x == some .cell⟩
mutual
def chkE : E → Sta → Expr → Bool
  | .lit d, _, .Constant c _ _ => litC d c
  | .var i, st, .Name x _ => decide (st.N[i]? = some x) && visB st.sc x && !dbg x && !(x == ("__classdict__" : Str))
  | .gl x, st, .Name y _ => decide (x = y) && glB st.sc x && !dbg x
  | .tup es, st, .Tuple xs _ _ => chkEs es st xs
  | .lst es, st, .List xs _ => chkEs es st xs
  | .bin op a b, st, .BinOp x o y _ => decide (o = bopP op) && chkE a st x && chkE b st y
  | .neg a, st, .UnaryOp .USub x _ => chkE a st x
  | .cmp op a b, st, .Compare x [o] [y] _ => decide (o = copP op) && notSet y && chkE a st x && chkE b st y
  | .chain op op' a b c, st, .Compare x [o, o'] [y, z] _ => decide (o = copP op) && decide (o' = copP op') && notSet y && notSet z && chkE a st x && chkE b st y && chkE c st z
  | .and_ es, st, .BoolOp .And xs _ => !xs.isEmpty && chkEs es st xs
  | .or_ es, st, .BoolOp .Or xs _ => !xs.isEmpty && chkEs es st xs
  | .not_ a, st, .UnaryOp .Not x _ => chkE a st x
  | .ifx c a b, st, .IfExp z x y _ => chkE c st z && chkE a st x && chkE b st y
  | .idx a i, st, .Subscript x y _ => plainI y && chkE a st x && chkE i st y
  | .slc a lo hi, st, .Subscript x (.Slice l h none _) _ => chkE a st x && chkO lo st l && chkO hi st h
  | .call f es, st, .Call (.Name g _) xs [] _ => decide (f = g) && glB st.sc f && !dbg f && chkEs es st xs
  | .blt b es, st, .Call (.Name g _) xs [] _ => decide (g = Str.ofString (bltN b)) && glB st.sc g && chkEs es st xs
  | .isi a t, st, .Call (.Name g _) [x, .Name ty _] [] _ => decide (g = ("isinstance" : Str)) && glB st.sc g && decide (ty = Str.ofString (tyN t)) && glB st.sc ty && chkE a st x
  | .isis a ts, st, .Call (.Name g _) [x, .Tuple ys _ _] [] _ => decide (g = ("isinstance" : Str)) && glB st.sc g && chkTy ts st.sc ys && chkE a st x
  | .mth o m es, st, .Call (.Attribute x nm apos) xs [] cpos => decide (nm = Str.ofString (mthN m)) && plainO x && (apos.endLine == cpos.line) && decide (xs.length < 29) && chkE o st x && chkEs es st xs
  | .lc elt tg it cond own, st, .ListComp e [⟨t, i, ifs, a⟩] scope _ => decide (a = 0) && blkC st.N st.sc scope own && chkIt it st i t && chkT tg (blkS st scope) t && (tgI tg).all (fun j => (own.map (·.2)).contains j) && chkEs cond (blkS st scope) ifs && decide (ifs.length ≤ 1) && chkE elt (blkS st scope) e
  | .fmt a, st, .FormattedValue x c none _ => decide (c = -1) && chkE a st x
  | .fstr es, st, .JoinedStr xs _ => decide (2 ≤ xs.length) && chkEs es st xs
  | .tupRg1 a, st, .Call (.Name g _) [.Call (.Name r _) [x] [] _] [] _ => decide (g = ("tuple" : Str)) && glB st.sc g && decide (r = ("range" : Str)) && glB st.sc r && notStar x && chkE a st x
  | .tupRg2 a b, st, .Call (.Name g _) [.Call (.Name r _) [x, y] [] _] [] _ => decide (g = ("tuple" : Str)) && glB st.sc g && decide (r = ("range" : Str)) && glB st.sc r && notStar x && notStar y && chkE a st x && chkE b st y
  | _, _, _ => false
def chkEs : Es → Sta → List Expr → Bool
  | .nil, _, [] => true
  | .cons e es, st, x :: xs => notStar x && chkE e st x && chkEs es st xs
  | _, _, _ => false
def chkO : Es → Sta → Option Expr → Bool
  | .nil, _, none => true
  | .cons e .nil, st, some x => chkE e st x
  | _, _, _ => false
/-- what a loop walks, and its target -/
def chkIt : It → Sta → Expr → Expr → Bool
  | .val e, st, x, _ => notSet x && chkE e st x
  | .rng1 a, st, .Call (.Name g _) [x] [] _, _ => decide (g = ("range" : Str)) && glB st.sc g && notStar x && chkE a st x
  | .rng2 a b, st, .Call (.Name g _) [x, y] [] _, _ => decide (g = ("range" : Str)) && glB st.sc g && notStar x && notStar y && chkE a st x && chkE b st y
  | .zip a b, st, .Call (.Name g _) [x, y] [] _, t => isTup t && decide (g = ("zip" : Str)) && glB st.sc g && notStar x && notStar y && chkE a st x && chkE b st y
  | .enum a, st, .Call (.Name g _) [x] [] _, t => isTup t && decide (g = ("enumerate" : Str)) && glB st.sc g && notStar x && chkE a st x
  | _, _, _, _ => false
end
/-- a value that is a comprehension -/
def isLc : Expr → Bool
  | .ListComp _ _ _ _ => true
  | .SetComp _ _ _ _ => true
  | .DictComp _ _ _ _ _ => true
  | _ => false
/-- the store of an assignment: 0 not covered, 1 plain, 2 the comprehension's own way -/
def asgB (st : Sta) (t v : Expr) : Nat := match t with
  | .Name y py => match v with
    | .ListComp _ _ scope vp => match st.sc.names.lookup y with
      | some .local => if (py.line == vp.line) && !(scope.names.any fun (n, k) => n == y && (k == .local || k == .cell)) && st.sc.kind == .function then 2 else 0
      | some .cell => 1
      | _ => 0
    | .SetComp _ _ _ _ => 0
    | .DictComp _ _ _ _ _ => 0
    | _ => 1
  | _ => match v with
    | .Tuple _ _ _ => 0
    | _ => 1
mutual
def chkS : S → Sta → Stmt → Bool
  | .asg t e, st, .Assign [x] v pos => asgB st x v != 0 && chkT t st x && chkE e st v
  | .asgi o i e, st, .Assign [.Subscript x y _] v _ => !isLc v && plainI y && chkE o st x && chkE i st y && chkE e st v
  | .aug i op e, st, .AugAssign (.Name x _) o v _ => decide (st.N[i]? = some x) && locB st x && decide (o = bopP op) && chkE e st v
  | .ex e, st, .Expr v _ => !isLc v && chkE e st v
  | .ret e, st, .Return (some v) _ => chkE e st v
  | .retn, _, .Return none _ => true
  | .iff c a b, st, .If z x y _ => chkE c st z && chkSs a st x && chkSs b st y
  | .for_ t it b, st, .For x i body [] _ => chkT t st x && chkIt it st i x && chkSs b st body
  | .whl c b, st, .While z body [] _ => chkE c st z && chkSs b st body
  | .pass, _, .Pass _ => true
  | .brk, _, .Break _ => true
  | .cont, _, .Continue _ => true
  | .nope, _, _ => true
  | _, _, _ => false
def chkSs : Ss → Sta → List Stmt → Bool
  | .nil, _, [] => true
  | .cons s ss, st, x :: xs => chkS s st x && chkSs ss st xs
  | _, _, _ => false
end
end My

/-! Truth, isinstance, what is walked. -/
namespace My
open PySem L2
section
variable {X : Cx}
/-! ### truth -/
theorem tru_of {m : Mp} {S : Store} {H : Hp} {x : V} {a : D} {k : Bool} (r : Rep X.K m S H) (ha : IsD X.K m H x a) (h : truF S a = some k) : TruV X.K x H k := by
  cases a with
  | non => cases h; cases ha; rfl
  | bl b => cases h; cases ha; rfl
  | int i => cases h; cases ha; rfl
  | str z =>
    simp only [truF] at h
    split at h
    · rename_i hz
      cases h
      cases ha
      refine ⟨hz, ?_⟩
      by_cases q : z.length = 0
      · simp [q]
      · have e1 : (z.length != 0) = true := by simpa using q
        have e2 : (((z.length : Nat) : Int) != 0) = true := by simp; omega
        rw [e1, e2]
    · cases h
  | tup xs =>
    cases h
    cases ha with
    | tup h1 h2 =>
      refine .inr (.inl ⟨_, h1, ?_⟩)
      cases h2 <;> rfl
  | ref n =>
    simp only [truF, Option.map_eq_some_iff] at h
    obtain ⟨xs, e, rfl⟩ := h
    obtain ⟨p, vs, rfl, _, h1, h2⟩ := r.rdL ha e
    refine .inl ⟨_, h1, ?_⟩
    cases h2 <;> rfl
/-! ### isinstance -/
def tnS : Tn → String
  | .non => "NoneType"
  | .bool => "bool"
  | .int => "int"
  | .str => "str"
  | .tuple => "tuple"
  | .list => "list"
theorem kit_tn (n : Tn) (t : Ty) : kitB (tnS n) (tyN t) = some (isTn n t) := by cases n <;> cases t <;> decide +kernel
theorem tn_of {m : Mp} {S : Store} {H : Hp} {x : V} {a : D} {n : Tn} (r : Rep X.K m S H) (ha : IsD X.K m H x a) (h : tnOf S a = some n) : TyX X.K H x (.type (tnS n)) := by
  cases a with
  | non => cases ha; cases h; exact .base .non
  | bl b => cases ha; cases h; exact .base (.bl b)
  | int i => cases ha; cases h; exact .base (.int i)
  | str z => cases ha; cases h; exact .base (.str z)
  | tup xs =>
    cases h
    cases ha with
    | tup h1 h2 =>
      rcases h1 with (h1 | ⟨o, h1⟩) | ⟨o, its, n, hk, hc, _⟩
      · exact .base (.tup h1)
      · exact .fTuple h1
      · exact .kTuple hk hc
  | ref n =>
    simp only [tnOf, Option.map_eq_some_iff] at h
    obtain ⟨xs, e, rfl⟩ := h
    obtain ⟨p, vs, rfl, _, h1, h2⟩ := r.rdL ha e
    rcases h1 with (h1 | ⟨o, h1⟩) | ⟨o, its, n, hk, hc, _⟩
    · exact .base (.lst h1)
    · exact .base (.frz h1)
    · exact .kList hk hc
/-! ### a walk -/
def JOk (K : PySem.W.Frag) (m1 : Mp) (H1 : Hp) (J : L2.It) (w : Wk) : Prop :=
  ∀ (m' : Mp) (H' : Hp) (S' : Store), Ex m1 m' H1 H' → Rep K m' S' H' →
    (∀ i d, i < w.n → w.at_ i S' = some d → J.go i H' ∧ ∀ v H2, J.yld i H' v H2 → Ex m' m' H' H2 ∧ Rep K m' S' H2 ∧ IsD K m' H2 v d) ∧ (w.fin S' = true → J.stop w.n H')
theorem SqT.inj' {K : PySem.W.Frag} {H : Hp} {a : Addr} {xs ys : List V} (h : Rd H a (.tup xs)) (h' : Rd H a (.tup ys)) : xs = ys := by
  rcases h with h | ⟨o, h⟩ <;> rcases h' with h' | ⟨o', h'⟩ <;> rw [h] at h' <;> cases h' <;> rfl
end
/-- a list, a tuple, a text, walked -/
def iSeq (K : PySem.W.Frag) (tl : TE) : TI := fun σ H R => tl σ H fun x H1 =>
  (∃ a, x = .ref a ∧ (∃ xs, SqL K H1 a xs) ∧ R (Itl K a) H1) ∨ (∃ a, x = .ref a ∧ (∃ xs, SqT K H1 a xs) ∧ R (Itt K a) H1) ∨ ∃ z, x = .str z ∧ R (Its z) H1
theorem pi_seq {X : Cx} {tg l : Expr} {tl : TE} (hl : PE X l tl) : PI X tg l (iSeq X.K tl) := by
  refine ⟨fun pins s σ H R I h => ?_⟩
  refine thn (hl.run pins s σ H _ I h) fun v s1 ⟨x, H1, I1, r1, q1⟩ => ?_
  rcases q1 with ⟨a, e, ⟨xs, hq⟩, q⟩ | ⟨a, e, ⟨xs, hq⟩, q⟩ | ⟨z, ex, q⟩
  · subst e
    cases r1
    obtain ⟨its, rv, p, hz⟩ := I1.list hq
    refine wpAny_pyIter_list p.isList ?_
    refine ⟨s1.heap.objs.size, [s1.heap.objs.size], _, _, H1, rfl, I1.kept (t' := s1.toks) fun b o e => Heap.get?_push_of_some _ e, turn_list a _, ⟨_, Heap.get?_push_size _ rfl, rfl, rfl⟩, fun b hb => ?_, q⟩
    have e : b = s1.heap.objs.size := by simpa using hb
    subst e
    exact I1.fpOk (Nat.le_refl _) (I1.hok.fresh (Nat.le_refl _))
  · subst e
    cases r1
    obtain ⟨its, rv, p, hz⟩ := I1.tuple hq
    refine wpAny_pyIter_tuple (show s1.heap.IsTuple a its.toArray from p) ?_
    refine ⟨s1.heap.objs.size, [s1.heap.objs.size], _, _, H1, rfl, I1.kept (t' := s1.toks) fun b o e => Heap.get?_push_of_some _ e, turn_tuple a _, ⟨_, Heap.get?_push_size _ rfl, rfl, rfl⟩, fun b hb => ?_, q⟩
    have e : b = s1.heap.objs.size := by simpa using hb
    subst e
    exact I1.fpOk (Nat.le_refl _) (I1.hok.fresh (Nat.le_refl _))
  · subst ex
    obtain ⟨t, rfl⟩ := r1
    cases ha : z.cps.all (· < 128)
    · exact wpAny_pyIter_wide ha (pi_one (tk := s1.toks) I1 _ (turn_str _ z t "str_iterator" (.inr rfl)) ⟨_, Heap.get?_push_size _ rfl, rfl, rfl⟩ q)
    · exact wpAny_pyIter_ascii ha (pi_one (tk := s1.toks) I1 _ (turn_str _ z t "str_ascii_iterator" (.inl rfl)) ⟨_, Heap.get?_push_size _ rfl, rfl, rfl⟩ q)
section
variable {X : Cx}
theorem rd_of {K : PySem.W.Frag} {m m' : Mp} {H H' : Hp} {S' : Store} {n : Nat} {a : Addr} {f : Bool} (hm : m[n]? = some (a, f)) (ex : Ex m m' H H') (r : Rep K m' S' H') {xs : List D} (e : rdL S' n = some xs) : ∃ vs, SqL K H' a vs ∧ IsDs K m' H' vs xs := by
  obtain ⟨b, vs, e1, e2, h1, h2⟩ := r.rdL (.ref (ex.get hm)) e
  cases e1
  exact ⟨vs, h1, h2⟩
theorem jok_list {K : PySem.W.Frag} {m : Mp} {H : Hp} {n : Nat} {a : Addr} {len : Nat} {f : Bool} (hm : m[n]? = some (a, f)) : JOk K m H (Itl K a) (wkList n len) := by
  intro m' H' S' ex r
  refine ⟨fun i d hi e => ?_, fun e => ?_⟩
  · simp only [wkList, Option.bind_eq_some_iff] at e
    obtain ⟨xs, e1, e2⟩ := e
    obtain ⟨vs, h1, h2⟩ := rd_of hm ex r e1
    obtain ⟨v, e3, e4⟩ := h2.get e2
    refine ⟨⟨vs, v, h1, e3⟩, fun u H2 hy => ?_⟩
    obtain ⟨rfl, hy⟩ := hy
    have := hy vs h1
    rw [e3] at this
    cases this
    exact ⟨.refl, r, e4⟩
  · simp only [wkList] at e
    split at e
    · rename_i xs e1
      obtain ⟨vs, h1, h2⟩ := rd_of hm ex r e1
      exact ⟨vs, h1, by rw [h2.length]; exact of_decide_eq_true e⟩
    · cases e
theorem jok_tup {K : PySem.W.Frag} {m : Mp} {H : Hp} {a : Addr} {vs : List V} {xs : List D} (h1 : SqT K H a vs) (h2 : IsDs K m H vs xs) : JOk K m H (Itt K a) (wkItems xs) := by
  intro m' H' S' ex r
  refine ⟨fun i d hi e => ?_, fun _ => ⟨vs, ex.sqT h1, by rw [h2.length]; exact Nat.le_refl _⟩⟩
  obtain ⟨v, e3, e4⟩ := (h2.ex ex).get e
  refine ⟨⟨vs, v, ex.sqT h1, e3⟩, fun u H2 hy => ?_⟩
  obtain ⟨rfl, hy⟩ := hy
  have := hy vs (ex.sqT h1)
  rw [e3] at this
  cases this
  exact ⟨.refl, r, e4⟩
theorem jok_str {K : PySem.W.Frag} {m : Mp} {H : Hp} (z : Str) : JOk K m H (Its z) (wkItems (signsD z)) := by
  intro m' H' S' ex r
  have hl : (signsD z).length = z.cps.size := by simp [signsD]
  refine ⟨fun i d hi e => ?_, fun _ => by show z.cps.size ≤ (signsD z).length; omega⟩
  have hi : i < (signsD z).length := hi
  refine ⟨by show i < z.cps.size; omega, fun u H2 hy => ?_⟩
  obtain ⟨rfl, c, hc, rfl⟩ := hy
  refine ⟨.refl, r, ?_⟩
  have e : (signsD z)[i]? = some d := e
  unfold signsD at e
  rw [List.getElem?_map, Array.getElem?_toList, hc] at e
  cases e
  exact .str _
theorem jok_rng {K : PySem.W.Frag} {m : Mp} {H : Hp} (lo : Int) (n : Nat) : JOk K m H (Itr lo n) (wkRng lo n) := by
  intro m' H' S' ex r
  refine ⟨fun i d hi e => ⟨hi, fun u H2 hy => ?_⟩, fun _ => Nat.le_refl _⟩
  obtain ⟨rfl, rfl⟩ := hy
  cases e
  exact ⟨.refl, r, .int _⟩
theorem jok_enum {K : PySem.W.Frag} {m : Mp} {H : Hp} {n : Nat} {a : Addr} {len : Nat} {f : Bool} (hm : m[n]? = some (a, f)) : JOk K m H (Ite K a) (wkEnum n len) := by
  intro m' H' S' ex r
  refine ⟨fun i d hi e => ?_, fun e => ?_⟩
  · simp only [wkEnum, Option.map_eq_some_iff, Option.bind_eq_some_iff] at e
    obtain ⟨x, ⟨xs, e1, e2⟩, rfl⟩ := e
    obtain ⟨vs, h1, h2⟩ := rd_of hm ex r e1
    obtain ⟨v, e3, e4⟩ := h2.get e2
    refine ⟨⟨vs, v, h1, e3⟩, fun u H2 hy => ?_⟩
    obtain ⟨T, y, rfl, hT, rfl, hy⟩ := hy
    have := hy vs h1
    rw [e3] at this
    cases this
    exact ⟨.grow (grow_upd hT), r.grow (grow_upd hT), .tup (.of upd_same) (.cons (.int _) (.cons (e4.ex (.grow (grow_upd hT))) .nil))⟩
  · simp only [wkEnum] at e
    split at e
    · rename_i xs e1
      obtain ⟨vs, h1, h2⟩ := rd_of hm ex r e1
      exact ⟨vs, h1, by rw [h2.length]; exact of_decide_eq_true e⟩
    · cases e
theorem jok_zipL {K : PySem.W.Frag} {m : Mp} {H : Hp} {n1 n2 : Nat} {a b : Addr} {k : Nat} {f f2 : Bool} (hm : m[n1]? = some (a, f)) (hm2 : m[n2]? = some (b, f2)) : JOk K m H (Itz K a b) (wkZip n1 n2 k) := by
  intro m' H' S' ex r
  refine ⟨fun i d hi e => ?_, fun e => ?_⟩
  · simp only [wkZip] at e
    split at e
    · rename_i x y e1 e2
      cases e
      simp only [Option.bind_eq_some_iff] at e1 e2
      obtain ⟨xs, e1, e3⟩ := e1
      obtain ⟨ys, e2, e4⟩ := e2
      obtain ⟨vs, h1, h2⟩ := rd_of hm ex r e1
      obtain ⟨ws, h3, h4⟩ := rd_of hm2 ex r e2
      obtain ⟨v, e5, e6⟩ := h2.get e3
      obtain ⟨u, e7, e8⟩ := h4.get e4
      refine ⟨⟨vs, ws, v, u, h1, h3, e5, e7⟩, fun u' H2 hy => ?_⟩
      obtain ⟨T, x', y', rfl, hT, rfl, hy1, hy2⟩ := hy
      have q1 := hy1 vs h1
      have q2 := hy2 ws h3
      rw [e5] at q1
      rw [e7] at q2
      cases q1; cases q2
      exact ⟨.grow (grow_upd hT), r.grow (grow_upd hT), .tup (.of upd_same) (.cons (e6.ex (.grow (grow_upd hT))) (.cons (e8.ex (.grow (grow_upd hT))) .nil))⟩
    · cases e
  · simp only [wkZip] at e
    split at e
    · rename_i xs ys e1 e2
      obtain ⟨vs, h1, h2⟩ := rd_of hm ex r e1
      obtain ⟨ws, h3, h4⟩ := rd_of hm2 ex r e2
      refine ⟨vs, ws, h1, h3, ?_⟩
      rw [Bool.or_eq_true, decide_eq_true_eq, decide_eq_true_eq] at e
      rw [h2.length, h4.length]
      exact e
    · cases e
theorem jok_zipT {K : PySem.W.Frag} {m : Mp} {H : Hp} {a b : Addr} {vs ws : List V} {xs ys : List D} (h1 : SqT K H a vs) (h2 : IsDs K m H vs xs) (h3 : SqT K H b ws) (h4 : IsDs K m H ws ys) : JOk K m H (RZ.ItzT K a b) (wkItems (zipD xs ys)) := by
  intro m' H' S' ex r
  have hl : (zipD xs ys).length = min xs.length ys.length := by simp [zipD]
  refine ⟨fun i d hi e => ?_, fun _ => ⟨vs, ws, ex.sqT h1, ex.sqT h3, ?_⟩⟩
  · have e : (zipD xs ys)[i]? = some d := e
    unfold zipD at e
    rw [List.getElem?_zipWith] at e
    split at e
    · rename_i x y e1 e2
      cases e
      obtain ⟨v, e5, e6⟩ := (h2.ex ex).get e1
      obtain ⟨u, e7, e8⟩ := (h4.ex ex).get e2
      refine ⟨⟨vs, ws, v, u, ex.sqT h1, ex.sqT h3, e5, e7⟩, fun u' H2 hy => ?_⟩
      obtain ⟨T, x', y', rfl, hT, rfl, hy1, hy2⟩ := hy
      have q1 := hy1 vs (ex.sqT h1)
      have q2 := hy2 ws (ex.sqT h3)
      rw [e5] at q1
      rw [e7] at q2
      cases q1; cases q2
      exact ⟨.grow (grow_upd hT), r.grow (grow_upd hT), .tup (.of upd_same) (.cons (e6.ex (.grow (grow_upd hT))) (.cons (e8.ex (.grow (grow_upd hT))) .nil))⟩
    · cases e
  · show vs.length ≤ (zipD xs ys).length ∨ ws.length ≤ (zipD xs ys).length
    rw [hl, h2.length, h4.length]
    omega
end
end My

/-! The evaluator is served by the hand layer: expressions. -/
namespace My
open PySem L2

theorem bnd_ok {α β : Type} {m : M α} {f : α → M β} {S S' : Store} {b : β} (h : bnd m f S = .ok b S') : ∃ a S1, m S = .ok a S1 ∧ f a S1 = .ok b S' := by
  unfold bnd at h
  split at h
  · rename_i a S1 e
    exact ⟨a, S1, e, h⟩
  · cases h
  · cases h
theorem see_ok {α : Type} {f : Store → Option α} {S S' : Store} {a : α} (h : see f S = .ok a S') : f S = some a ∧ S' = S := by
  unfold see at h
  split at h
  · rename_i b e
    cases h
    exact ⟨e, rfl⟩
  · cases h
theorem see_bnd {α β : Type} {f : Store → Option α} {g : α → M β} {S S' : Store} {b : β} (h : bnd (see f) g S = .ok b S') : ∃ a, f S = some a ∧ g a S = .ok b S' := by
  obtain ⟨a, S1, h1, h2⟩ := bnd_ok h
  obtain ⟨h1, rfl⟩ := see_ok h1
  exact ⟨a, h1, h2⟩
theorem ret_bnd {α β : Type} {a : α} {g : α → M β} : bnd (ret a) g = g a := rfl
theorem ret_ok {α : Type} {S S' : Store} {a b : α} (h : ret a S = .ok b S') : b = a ∧ S' = S := by
  cases h; exact ⟨rfl, rfl⟩
theorem opt_ok {α : Type} {o : Option α} {S S' : Store} {a : α} (h : opt o S = .ok a S') : o = some a ∧ S' = S := by
  unfold opt at h
  split at h
  · cases h; exact ⟨rfl, rfl⟩
  · cases h
theorem no_ok {α : Type} {S S' : Store} {a : α} (h : (no : M α) S = .ok a S') : False := by cases h

/-- what is promised of a def: it answers as the evaluator -/
def spG (K : PySem.W.Frag) (g : List D → M D) (n : Nat) : Sp := fun vs H Q _ => vs.length = n ∧ ∃ m S args d S', Rep K m S H ∧ IsDs K m H vs args ∧ g args S = .ok d S' ∧ Post K m H S' d Q
/-- the built-in names that a text may use -/
def blts : List Str := [Str.ofString "len", Str.ofString "int", Str.ofString "str", Str.ofString "abs", Str.ofString "tuple", Str.ofString "list", Str.ofString "min", Str.ofString "max", Str.ofString "sum", Str.ofString "any", Str.ofString "all",
  Str.ofString "isinstance", Str.ofString "bool", Str.ofString "range", Str.ofString "zip", Str.ofString "enumerate"]
/-- what must be known where a piece stands -/
structure Okx (Γ : Tx) (st : Sta) (X : Cx) : Prop where
  N : X.N = st.N
  nd : X.N.Nodup
  sc : X.env.scope = st.sc
  fn : ∀ x, st.fnb x = true → X.fn x = true
  calm : X.calm = true
  xe : X.xe = fun _ _ => False
  hu : X.A.units + 64 < cLine
  blt : ∀ x ∈ blts, X.mg x = none
  con : ∀ x d, Γ.con x = some d → ∃ v u, X.mg x = some u ∧ RelV v u ∧ ∀ m H, IsD X.K m H v d
  fns : ∀ f, (∀ args s, Γ.call f args s = .no) ∨ ∃ k fa fd ps, Room k X.A ∧ X.mg f = some (.ref fa) ∧ PySem.W.keepIn X.K (.ref fa) = true ∧ Binds X.K fd ps [] ∧ FnOk X.prog X.w X.K X.mg X.base CX0 k fa fd ps (spG X.K (Γ.call f) ps.length) ∧ ∀ args S d S', Γ.call f args S = .ok d S' → args.length = ps.length
theorem Okx.blk {Γ : Tx} {st : Sta} {X : Cx} (ok : Okx Γ st X) (s : Shared) (H : Hp) (scope : Scope) (C : Addr) (cl : List (Str × Addr)) (fp : List Addr) : Okx Γ (blkS st scope) (X.blk s H scope (compEnvC scope cl C X.env) fp) where
  N := ok.N
  nd := ok.nd
  sc := by
    show relS scope X.env.scope = relS scope st.sc
    rw [ok.sc]
  fn := fun x h => h
  calm := ok.calm
  xe := rfl
  hu := ok.hu
  blt := ok.blt
  con := ok.con
  fns := ok.fns
structure RepL (K : PySem.W.Frag) (m : Mp) (H : Hp) (σ : L2.St) (ρ : Env) : Prop where
  len : σ.length = ρ.length
  at_ : ∀ (i : Nat) d, ρ[i]? = some (some d) → ∃ v, σ[i]? = some (some v) ∧ IsD K m H v d
theorem RepL.ex {K : PySem.W.Frag} {m m1 : Mp} {H H1 : Hp} {σ : L2.St} {ρ : Env} (l : RepL K m H σ ρ) (x : Ex m m1 H H1) : RepL K m1 H1 σ ρ :=
  ⟨l.len, fun i d e => let ⟨v, e1, e2⟩ := l.at_ i d e; ⟨v, e1, e2.ex x⟩⟩
theorem RepL.set {K : PySem.W.Frag} {m : Mp} {H : Hp} {σ : L2.St} {ρ : Env} (l : RepL K m H σ ρ) (i : Nat) {v : V} {d : D} (h : IsD K m H v d) : RepL K m H (σ.set i (some v)) (ρ.set i (some d)) := by
  refine ⟨by simpa using l.len, fun j e he => ?_⟩
  have len := l.len
  by_cases hj : i = j
  · subst hj
    by_cases hi : i < ρ.length
    · rw [List.getElem?_set_self hi] at he
      cases he
      exact ⟨v, by rw [List.getElem?_set_self (by omega)], h⟩
    · rw [List.getElem?_eq_none (by simpa using hi)] at he; cases he
  · rw [List.getElem?_set_ne hj] at he ⊢
    exact l.at_ j e he
theorem RepL.setN {K : PySem.W.Frag} {m : Mp} {H : Hp} {σ : L2.St} {ρ : Env} (l : RepL K m H σ ρ) (i : Nat) : RepL K m H (σ.set i none) (ρ.set i none) := by
  refine ⟨by simpa using l.len, fun j e he => ?_⟩
  by_cases hj : i = j
  · subst hj
    by_cases hi : i < ρ.length
    · rw [List.getElem?_set_self hi] at he
      cases he
    · rw [List.getElem?_eq_none (by simpa using hi)] at he; cases he
  · rw [List.getElem?_set_ne hj] at he ⊢
    exact l.at_ j e he
theorem RepL.wipe {K : PySem.W.Frag} {m : Mp} {H : Hp} {σ : L2.St} {ρ : Env} (l : RepL K m H σ ρ) : ∀ vs : List Nat, RepL K m H (L2.wipe σ vs) (wipeD ρ vs)
  | [] => l
  | v :: vs => (RepL.wipe l vs).setN v

section
variable (Γ : Tx) (X : Cx)
def SimE (py : Expr) (e : E) : Prop := ∃ t : TE, PE X py t ∧ ∀ σ ρ H m S d S' Q, Rep X.K m S H → RepL X.K m H σ ρ → evE Γ e ρ S = .ok d S' → Post X.K m H S' d Q → t σ H Q
def SimT (py : Expr) (e : E) : Prop := ∃ t : TT, PT X py t ∧ ∀ σ ρ H m S b S' (Q : Bool → Hp → Prop), Rep X.K m S H → RepL X.K m H σ ρ → evT Γ e ρ S = .ok b S' → (∀ H' m', Ex m m' H H' → Rep X.K m' S' H' → Q b H') → t σ H Q
def SimA (pys : List Expr) (es : Es) : Prop := ∃ t : TA, PA X pys t ∧ ∀ σ ρ H m S ds S' (Q : List V → Hp → Prop), Rep X.K m S H → RepL X.K m H σ ρ → evEs Γ es ρ S = .ok ds S' → (∀ vs H' m', Ex m m' H H' → Rep X.K m' S' H' → IsDs X.K m' H' vs ds → Q vs H') → t σ H Q
def SimP (py : Option Expr) (es : Es) : Prop := ∃ t : TO, PO X py t ∧ ∀ σ ρ H m S o S' (Q : Option Int → Hp → Prop), Rep X.K m S H → RepL X.K m H σ ρ → evP Γ es ρ S = .ok o S' → (∀ H' m', Ex m m' H H' → Rep X.K m' S' H' → Q o H') → t σ H Q
def SimC (pys : List Expr) (es : Es) : Prop := ∃ t : TT, PTs X pys t ∧ ∀ σ ρ H m S b S' (Q : Bool → Hp → Prop), Rep X.K m S H → RepL X.K m H σ ρ → evC Γ es ρ S = .ok b S' → (∀ H' m', Ex m m' H H' → Rep X.K m' S' H' → Q b H') → t σ H Q
def SimI (tg py : Expr) (it : It) : Prop := ∃ wi : TI, PI X tg py wi ∧ ∀ σ ρ H m S w S' (R : L2.It → Hp → Prop), Rep X.K m S H → RepL X.K m H σ ρ → evIt Γ it ρ S = .ok w S' → (∀ J H' m', Ex m m' H H' → Rep X.K m' S' H' → JOk X.K m' H' J w → R J H') → wi σ H R
end
section
variable {Γ : Tx} {X : Cx} {st : Sta}
theorem pe_no {py : Expr} : PE X py (fun _ _ _ => False) := ⟨fun _ _ _ _ _ _ h => h.elim⟩
theorem pt_no {py : Expr} : PT X py (fun _ _ _ => False) := ⟨fun _ _ _ _ _ _ h => h.elim⟩
/-- a piece that the evaluator does not serve -/
theorem SimE.never {py : Expr} {e : E} (h : ∀ ρ S d S', evE Γ e ρ S = .ok d S' → False) : SimE Γ X py e := ⟨_, pe_no, fun _ ρ _ _ S d S' _ _ _ e _ => (h ρ S d S' e).elim⟩
/-! ### arguments -/
theorem sim_nil : SimA Γ X [] .nil := ⟨_, pa_nil, fun σ ρ H m S ds S' Q r l h q => by
  simp only [evEs] at h
  obtain ⟨rfl, rfl⟩ := ret_ok h
  exact q [] H m .refl r .nil⟩
theorem starEach_cons {x : Expr} {xs : List Expr} {env : PySem.Env} (h : notStar x = true) : starEach (x :: xs) env = (false, eval x env) :: starEach xs env := by
  cases x <;> first | rfl | cases h
theorem sim_cons {x : Expr} {xs : List Expr} {e : E} {es : Es} (hn : notStar x = true) (h1 : SimE Γ X x e) (h2 : SimA Γ X xs es) : SimA Γ X (x :: xs) (.cons e es) := by
  obtain ⟨t, p, f⟩ := h1
  obtain ⟨ts, ps, fs⟩ := h2
  refine ⟨_, pa_cons p ps (starEach_cons hn), fun σ ρ H m S ds S' Q r l h q => ?_⟩
  simp only [evEs] at h
  obtain ⟨d, S1, e1, h⟩ := bnd_ok h
  obtain ⟨ds', S2, e2, h⟩ := bnd_ok h
  obtain ⟨rfl, rfl⟩ := ret_ok h
  refine f σ ρ H m S d S1 _ r l e1 fun v H1 m1 x1 r1 i1 => ?_
  refine fs σ ρ H1 m1 S1 ds' S' _ r1 (l.ex x1) e2 fun vs H2 m2 x2 r2 i2 => ?_
  exact q (v :: vs) H2 m2 (x1.trans x2) r2 (.cons (i1.ex x2) i2)
theorem plainArgs {xs : List Expr} {env : PySem.Env} {pos : Pos} : ∀ {es : Es} {st : Sta}, chkEs es st xs = true → (backTo pos (starEach xs env)).any (·.1) = false := by
  induction xs with
  | nil => intro es st _; rfl
  | cons x xs ih =>
    intro es st h
    cases es with
    | nil => simp only [chkEs] at h; cases h
    | cons e es =>
      simp only [chkEs, Bool.and_eq_true] at h
      rw [starEach_cons h.1.1]
      have := ih h.2
      unfold backTo at this ⊢
      rw [List.map_cons, List.any_cons, this]
      rfl
/-! ### small ones -/
theorem sim_lit {d : D} {c : Const} {k : Nat} {pos : Pos} (h : litC d c = true) : SimE Γ X (.Constant c k pos) (.lit d) := by
  cases d with
  | non => cases c <;> first | (cases h; done) | exact ⟨_, pe_non, fun σ ρ H m S d S' Q r l h p => by simp only [evE] at h; obtain ⟨rfl, rfl⟩ := ret_ok h; exact p.here r .non⟩
  | bl b =>
    cases c <;> first | (cases h; done) | skip
    have e := eq_of_beq (show (b == _) = true from h)
    subst e
    exact ⟨_, pe_bl, fun σ ρ H m S d S' Q r l h p => by simp only [evE] at h; obtain ⟨rfl, rfl⟩ := ret_ok h; exact p.here r (.bl _)⟩
  | int i =>
    cases c <;> first | (cases h; done) | skip
    have e := of_decide_eq_true (show decide (i = _) = true from h)
    subst e
    exact ⟨_, pe_int, fun σ ρ H m S d S' Q r l h p => by simp only [evE] at h; obtain ⟨rfl, rfl⟩ := ret_ok h; exact p.here r (.int _)⟩
  | str z =>
    cases c <;> first | (cases h; done) | skip
    have e := of_decide_eq_true (show decide (z = _) = true from h)
    subst e
    exact ⟨_, pe_str, fun σ ρ H m S d S' Q r l h p => by simp only [evE] at h; obtain ⟨rfl, rfl⟩ := ret_ok h; exact p.here r (.str _)⟩
  | tup _ => cases c <;> cases h
  | ref _ => cases c <;> cases h
theorem vis_of (ok : Okx Γ st X) {x : Str} (h : visB st.sc x = true) : Vis X.env.scope x := by
  rw [ok.sc]
  unfold visB at h
  split at h
  · rename_i e; exact .inl e
  · rename_i e; exact .inr (.inl e)
  · rename_i e; exact .inr (.inr e)
  · cases h
theorem gl_of (ok : Okx Γ st X) {x : Str} (h : glB st.sc x = true) : Gl X x := by
  unfold glB at h
  show X.env.scope.names.lookup x = some .globalImplicit
  rw [ok.sc]
  split at h
  · rename_i e; exact e
  · cases h
theorem sim_var (ok : Okx Γ st X) {i : Nat} {x : Str} {pos : Pos} (h : chkE (.var i) st (.Name x pos) = true) : SimE Γ X (.Name x pos) (.var i) := by
  simp only [chkE, Bool.and_eq_true, decide_eq_true_eq, Bool.not_eq_true'] at h
  obtain ⟨⟨⟨h1, h2⟩, h3⟩, h4⟩ := h
  refine ⟨_, pe_var (i := i) (by rw [ok.N]; exact h1) (vis_of ok h2) h3 h4, fun σ ρ H m S d S' Q r l h p => ?_⟩
  cases e : ρ[i]? with
  | none =>
    simp only [evE, e] at h
    exact (no_ok h).elim
  | some o =>
    cases o with
    | none =>
      simp only [evE, e] at h
      exact (no_ok h).elim
    | some d' =>
      simp only [evE, e] at h
      obtain ⟨rfl, rfl⟩ := ret_ok h
      obtain ⟨v, e1, e2⟩ := l.at_ i d e
      exact ⟨v, e1, p.here r e2⟩
theorem sim_gl (ok : Okx Γ st X) {x : Str} {pos : Pos} (h1 : glB st.sc x = true) (h2 : dbg x = false) : SimE Γ X (.Name x pos) (.gl x) := by
  cases e : Γ.con x with
  | none =>
    refine .never fun ρ S d S' h => ?_
    simp only [evE, e] at h
    obtain ⟨h, _⟩ := opt_ok h
    cases h
  | some d =>
    obtain ⟨v, u, e1, e2, e3⟩ := ok.con x d e
    refine ⟨_, pe_glob (gl_of ok h1) e1 e2 h2, fun σ ρ H m S d' S' Q r l h p => ?_⟩
    simp only [evE, e] at h
    obtain ⟨h, rfl⟩ := opt_ok h
    cases h
    exact p.here r (e3 m H)
theorem sim_tup {xs : List Expr} {es : Es} {k : Nat} {pos : Pos} (h : SimA Γ X xs es) : SimE Γ X (.Tuple xs k pos) (.tup es) := by
  obtain ⟨t, p, f⟩ := h
  refine ⟨_, pe_tup p, fun σ ρ H m S d S' Q r l h q => ?_⟩
  simp only [evE] at h
  obtain ⟨ds, S1, e1, h⟩ := bnd_ok h
  split at h
  · rename_i hz
    obtain ⟨rfl, rfl⟩ := ret_ok h
    refine f σ ρ H m S ds S' _ r l e1 fun vs H1 m1 x1 r1 i1 => ⟨by rw [i1.length]; exact hz, fun a ha => ?_⟩
    exact q _ _ m1 (x1.trans (.grow (grow_upd ha))) (r1.grow (grow_upd ha)) (.tup (.of upd_same) (i1.ex (.grow (grow_upd ha))))
  · exact (no_ok h).elim
theorem sim_lst {xs : List Expr} {es : Es} {pos : Pos} (h : SimA Γ X xs es) : SimE Γ X (.List xs pos) (.lst es) := by
  obtain ⟨t, p, f⟩ := h
  refine ⟨_, pe_lst p, fun σ ρ H m S d S' Q r l h q => ?_⟩
  simp only [evE] at h
  obtain ⟨ds, S1, e1, h⟩ := bnd_ok h
  split at h
  · rename_i hz
    cases h
    refine f σ ρ H m S ds S1 _ r l e1 fun vs H1 m1 x1 r1 i1 => ⟨by rw [i1.length]; exact hz, fun a ha => ?_⟩
    obtain ⟨r2, x2⟩ := r1.alloc ha i1
    exact q _ _ _ (x1.trans x2) r2 (.ref (f := true) (by rw [← r1.len]; simp))
  · exact (no_ok h).elim
theorem sim_bin {x y : Expr} {a b : E} {op : Bop} {pos : Pos} (ha : SimE Γ X x a) (hb : SimE Γ X y b) : SimE Γ X (.BinOp x (bopP op) y pos) (.bin op a b) := by
  obtain ⟨ta, pa, fa⟩ := ha
  obtain ⟨tb, pb, fb⟩ := hb
  obtain ⟨ro, ho, g⟩ := s_bop (X := X) op
  refine ⟨_, pe_op ho pa pb, fun σ ρ H m S d S' Q r l h q => ?_⟩
  simp only [evE] at h
  obtain ⟨d1, S1, e1, h⟩ := bnd_ok h
  obtain ⟨d2, S2, e2, h⟩ := bnd_ok h
  refine fa σ ρ H m S d1 S1 _ r l e1 fun v H1 m1 x1 r1 i1 => ?_
  refine fb σ ρ H1 m1 S1 d2 S2 _ r1 (l.ex x1) e2 fun w H2 m2 x2 r2 i2 => ?_
  exact g v w d1 d2 m2 S2 H2 d S' Q r2 (i1.ex x2) i2 h fun u H3 m3 x3 r3 i3 => q u H3 m3 ((x1.trans x2).trans x3) r3 i3
theorem sim_neg {x : Expr} {a : E} {pos : Pos} (ha : SimE Γ X x a) : SimE Γ X (.UnaryOp .USub x pos) (.neg a) := by
  obtain ⟨ta, pa, fa⟩ := ha
  refine ⟨_, pe_un un_neg pa, fun σ ρ H m S d S' Q r l h q => ?_⟩
  simp only [evE] at h
  obtain ⟨d1, S1, e1, h⟩ := bnd_ok h
  split at h
  · obtain ⟨rfl, rfl⟩ := ret_ok h
    refine fa σ ρ H m S _ S' _ r l e1 fun v H1 m1 x1 r1 i1 => ?_
    cases i1
    exact ⟨_, rfl, q _ H1 m1 x1 r1 (.int _)⟩
  · exact (no_ok h).elim
theorem mark_of {y : Expr} {op : Cop} (h : notSet y = true) : behindInMarks (copP op) y = false := by
  cases y <;> first | rfl | cases h
theorem cop_see {op : Cop} {a b d : D} {S S' : Store} (h : (see fun s => (copF op a b s).map .bl) S = .ok d S') : copG op a b S = .ok d S' := by
  obtain ⟨h, rfl⟩ := see_ok h
  simp only [Option.map_eq_some_iff] at h
  obtain ⟨k, e, rfl⟩ := h
  simp only [copG, e]
theorem sim_cmp (ok : Okx Γ st X) {x y : Expr} {a b : E} {op : Cop} {pos : Pos} (hn : notSet y = true) (ha : SimE Γ X x a) (hb : SimE Γ X y b) : SimE Γ X (.Compare x [copP op] [y] pos) (.cmp op a b) := by
  obtain ⟨ta, pa, fa⟩ := ha
  obtain ⟨tb, pb, fb⟩ := hb
  obtain ⟨ro, ho, g⟩ := s_cop ok.hu op
  refine ⟨_, pe_cmpR ho pa pb (mark_of hn), fun σ ρ H m S d S' Q r l h q => ?_⟩
  simp only [evE] at h
  obtain ⟨d1, S1, e1, h⟩ := bnd_ok h
  obtain ⟨d2, S2, e2, h⟩ := bnd_ok h
  refine fa σ ρ H m S d1 S1 _ r l e1 fun v H1 m1 x1 r1 i1 => ?_
  refine fb σ ρ H1 m1 S1 d2 S2 _ r1 (l.ex x1) e2 fun w H2 m2 x2 r2 i2 => ?_
  exact g v w d1 d2 m2 S2 H2 d S' Q r2 (i1.ex x2) i2 (cop_see h) fun u H3 m3 x3 r3 i3 => q u H3 m3 ((x1.trans x2).trans x3) r3 i3
theorem simT_cmp (ok : Okx Γ st X) {x y : Expr} {a b : E} {op : Cop} {pos : Pos} (hn : notSet y = true) (ha : SimE Γ X x a) (hb : SimE Γ X y b) : SimT Γ X (.Compare x [copP op] [y] pos) (.cmp op a b) := by
  obtain ⟨ta, pa, fa⟩ := ha
  obtain ⟨tb, pb, fb⟩ := hb
  obtain ⟨ro, ho, g⟩ := s_cop ok.hu op
  refine ⟨_, pt_cmpR ho pa pb (mark_of hn), fun σ ρ H m S d S' Q r l h q => ?_⟩
  simp only [evT] at h
  obtain ⟨d0, S0, h, h0⟩ := bnd_ok h
  simp only [evE] at h
  obtain ⟨d1, S1, e1, h⟩ := bnd_ok h
  obtain ⟨d2, S2, e2, h⟩ := bnd_ok h
  have h9 := see_ok h
  simp only [Option.map_eq_some_iff] at h9
  obtain ⟨⟨k, _, rfl⟩, rfl⟩ := h9
  obtain ⟨h0, rfl⟩ := see_ok h0
  cases h0
  refine fa σ ρ H m S d1 S1 _ r l e1 fun v H1 m1 x1 r1 i1 => ?_
  refine fb σ ρ H1 m1 S1 d2 _ _ r1 (l.ex x1) e2 fun w H2 m2 x2 r2 i2 => ?_
  refine g v w d1 d2 m2 _ H2 _ _ _ r2 (i1.ex x2) i2 (cop_see h) fun u H3 m3 x3 r3 i3 => ?_
  cases i3
  exact ⟨_, rfl, q H3 m3 ((x1.trans x2).trans x3) r3⟩
theorem marks2 {y z : Expr} {op op' : Cop} (h2 : notSet z = true) : lastMarks [copP op, copP op'] [y, z] = false := by
  show behindInMarks (copP op') z = false
  exact mark_of h2
theorem sim_chain (ok : Okx Γ st X) {x y z : Expr} {a b c : E} {op op' : Cop} {pos : Pos} (hn : notSet z = true) (ha : SimE Γ X x a) (hb : SimE Γ X y b) (hc : SimE Γ X z c) :
    SimE Γ X (.Compare x [copP op, copP op'] [y, z] pos) (.chain op op' a b c) := by
  obtain ⟨ta, pa, fa⟩ := ha
  obtain ⟨tb, pb, fb⟩ := hb
  obtain ⟨tc, pc, fc⟩ := hc
  obtain ⟨ro, ho, g⟩ := s_cop ok.hu op
  obtain ⟨ro', ho', g'⟩ := s_cop ok.hu op'
  refine ⟨_, pe_chain ho ho' pa pb pc (marks2 hn), fun σ ρ H m S d S' Q r l h q => ?_⟩
  simp only [evE] at h
  obtain ⟨d1, S1, e1, h⟩ := bnd_ok h
  obtain ⟨d2, S2, e2, h⟩ := bnd_ok h
  obtain ⟨k, S3, e3, h⟩ := bnd_ok h
  obtain ⟨e3, rfl⟩ := see_ok e3
  refine fa σ ρ H m S d1 S1 _ r l e1 fun v H1 m1 x1 r1 i1 => ?_
  refine fb σ ρ H1 m1 S1 d2 _ _ r1 (l.ex x1) e2 fun w H2 m2 x2 r2 i2 => ?_
  refine g v w d1 d2 m2 _ H2 (.bl k) S3 _ r2 (i1.ex x2) i2 (by simp only [copG, e3]) fun u H3 m3 x3 r3 i3 => ?_
  cases i3
  refine ⟨k, rfl, ?_⟩
  cases k with
  | true =>
    rw [if_pos rfl] at h ⊢
    obtain ⟨d4, S4, e4, h⟩ := bnd_ok h
    refine fc σ ρ H3 m3 S3 d4 S4 _ r3 (l.ex ((x1.trans x2).trans x3)) e4 fun u4 H4 m4 x4 r4 i4 => ?_
    exact g' w u4 d2 d4 m4 S4 H4 d S' Q r4 (i2.ex (x3.trans x4)) i4 (cop_see h) fun u5 H5 m5 x5 r5 i5 => q u5 H5 m5 (((x1.trans x2).trans (x3.trans x4)).trans x5) r5 i5
  | false =>
    rw [if_neg Bool.false_ne_true] at h ⊢
    obtain ⟨rfl, rfl⟩ := ret_ok h
    exact q _ H3 m3 ((x1.trans x2).trans x3) r3 (.bl _)
theorem simT_chain (ok : Okx Γ st X) {x y z : Expr} {a b c : E} {op op' : Cop} {pos : Pos} (hn : notSet z = true) (ha : SimE Γ X x a) (hb : SimE Γ X y b) (hc : SimE Γ X z c) :
    SimT Γ X (.Compare x [copP op, copP op'] [y, z] pos) (.chain op op' a b c) := by
  obtain ⟨ta, pa, fa⟩ := ha
  obtain ⟨tb, pb, fb⟩ := hb
  obtain ⟨tc, pc, fc⟩ := hc
  obtain ⟨ro, ho, g⟩ := s_cop ok.hu op
  obtain ⟨ro', ho', g'⟩ := s_cop ok.hu op'
  refine ⟨_, pt_chain ho ho' pa pb pc (marks2 hn), fun σ ρ H m S d S' Q r l h q => ?_⟩
  simp only [evT] at h
  obtain ⟨d0, S0, h, h0⟩ := bnd_ok h
  obtain ⟨h0, rfl⟩ := see_ok h0
  simp only [evE] at h
  obtain ⟨d1, S1, e1, h⟩ := bnd_ok h
  obtain ⟨d2, S2, e2, h⟩ := bnd_ok h
  obtain ⟨k, S3, e3, h⟩ := bnd_ok h
  obtain ⟨e3, rfl⟩ := see_ok e3
  refine fa σ ρ H m S d1 S1 _ r l e1 fun v H1 m1 x1 r1 i1 => ?_
  refine fb σ ρ H1 m1 S1 d2 _ _ r1 (l.ex x1) e2 fun w H2 m2 x2 r2 i2 => ?_
  refine g v w d1 d2 m2 _ H2 (.bl k) S3 _ r2 (i1.ex x2) i2 (by simp only [copG, e3]) fun u H3 m3 x3 r3 i3 => ?_
  cases i3
  refine ⟨k, rfl, ?_⟩
  cases k with
  | true =>
    rw [if_pos rfl] at h ⊢
    obtain ⟨d4, S4, e4, h⟩ := bnd_ok h
    have h9 := see_ok h
    simp only [Option.map_eq_some_iff] at h9
    obtain ⟨⟨k, _, rfl⟩, rfl⟩ := h9
    cases h0
    refine fc σ ρ H3 m3 S3 d4 _ _ r3 (l.ex ((x1.trans x2).trans x3)) e4 fun u4 H4 m4 x4 r4 i4 => ?_
    refine g' w u4 d2 d4 m4 _ H4 _ _ _ r4 (i2.ex (x3.trans x4)) i4 (cop_see h) fun u5 H5 m5 x5 r5 i5 => ?_
    cases i5
    exact ⟨_, rfl, q H5 m5 (((x1.trans x2).trans (x3.trans x4)).trans x5) r5⟩
  | false =>
    rw [if_neg Bool.false_ne_true] at h ⊢
    obtain ⟨rfl, rfl⟩ := ret_ok h
    cases h0
    exact ⟨_, rfl, q H3 m3 ((x1.trans x2).trans x3) r3⟩
end
end My

/-! Expressions, further. -/
namespace My
open PySem L2
section
variable {Γ : Tx} {X : Cx} {st : Sta}
/-! ### and, or, not, if -/
theorem truS {S S' : Store} {x : D} {k : Bool} (h : (see fun s => truF s x) S = .ok k S') : truF S x = some k ∧ S' = S := see_ok h
inductive SimAll (Γ : Tx) (X : Cx) : List Expr → Es → Prop
  | nil : SimAll Γ X [] .nil
  | cons {x : Expr} {e : E} {xs : List Expr} {es : Es} : SimE Γ X x e → SimT Γ X x e → SimAll Γ X xs es → SimAll Γ X (x :: xs) (.cons e es)
theorem sim_and {pos : Pos} : ∀ {xs : List Expr} {es : Es}, SimAll Γ X xs es → SimE Γ X (.BoolOp .And xs pos) (.and_ es)
  | _, _, .nil => .never fun ρ S d S' h => by simp only [evE, evAnd] at h; exact no_ok h
  | _, _, .cons (x := x) (e := e) (xs := xs) (es := es) h1 _ hs => by
    cases hs with
    | nil =>
      obtain ⟨t, p, f⟩ := h1
      refine ⟨_, pe_one p, fun σ ρ H m S d S' Q r l h q => ?_⟩
      simp only [evE, evAnd] at h
      exact f σ ρ H m S d S' Q r l h q
    | cons g1 g2 gs =>
      obtain ⟨t, p, f⟩ := h1
      obtain ⟨ts, ps, fs⟩ := sim_and (pos := pos) (SimAll.cons g1 g2 gs)
      refine ⟨_, pe_andT p ps, fun σ ρ H m S d S' Q r l h q => ?_⟩
      simp only [evE, evAnd] at h
      obtain ⟨d1, S1, e1, h⟩ := bnd_ok h
      obtain ⟨k, S2, e2, h⟩ := bnd_ok h
      obtain ⟨e2, rfl⟩ := truS e2
      refine f σ ρ H m S d1 _ _ r l e1 fun v H1 m1 x1 r1 i1 => ⟨k, tru_of r1 i1 e2, ?_⟩
      cases k with
      | true =>
        rw [if_pos rfl] at h ⊢
        exact fs σ ρ H1 m1 _ d S' Q r1 (l.ex x1) (by simp only [evE]; exact h) fun u H2 m2 x2 r2 i2 => q u H2 m2 (x1.trans x2) r2 i2
      | false =>
        rw [if_neg Bool.false_ne_true] at h ⊢
        obtain ⟨rfl, rfl⟩ := ret_ok h
        exact q v H1 m1 x1 r1 i1
theorem sim_or {pos : Pos} : ∀ {xs : List Expr} {es : Es}, SimAll Γ X xs es → SimE Γ X (.BoolOp .Or xs pos) (.or_ es)
  | _, _, .nil => .never fun ρ S d S' h => by simp only [evE, evOr] at h; exact no_ok h
  | _, _, .cons (x := x) (e := e) (xs := xs) (es := es) h1 _ hs => by
    cases hs with
    | nil =>
      obtain ⟨t, p, f⟩ := h1
      refine ⟨_, pe_one p, fun σ ρ H m S d S' Q r l h q => ?_⟩
      simp only [evE, evOr] at h
      exact f σ ρ H m S d S' Q r l h q
    | cons g1 g2 gs =>
      obtain ⟨t, p, f⟩ := h1
      obtain ⟨ts, ps, fs⟩ := sim_or (pos := pos) (SimAll.cons g1 g2 gs)
      refine ⟨_, pe_orT p ps, fun σ ρ H m S d S' Q r l h q => ?_⟩
      simp only [evE, evOr] at h
      obtain ⟨d1, S1, e1, h⟩ := bnd_ok h
      obtain ⟨k, S2, e2, h⟩ := bnd_ok h
      obtain ⟨e2, rfl⟩ := truS e2
      refine f σ ρ H m S d1 _ _ r l e1 fun v H1 m1 x1 r1 i1 => ⟨k, tru_of r1 i1 e2, ?_⟩
      cases k with
      | false =>
        rw [if_neg Bool.false_ne_true] at h ⊢
        exact fs σ ρ H1 m1 _ d S' Q r1 (l.ex x1) (by simp only [evE]; exact h) fun u H2 m2 x2 r2 i2 => q u H2 m2 (x1.trans x2) r2 i2
      | true =>
        rw [if_pos rfl] at h ⊢
        obtain ⟨rfl, rfl⟩ := ret_ok h
        exact q v H1 m1 x1 r1 i1
def SimW (Γ : Tx) (X : Cx) (py : Expr) (g : My.Env → M Bool) : Prop := ∃ t : TT, PW X py t ∧ ∀ σ ρ H m S b S' (Q : Bool → Hp → Prop), Rep X.K m S H → RepL X.K m H σ ρ → g ρ S = .ok b S' → (∀ H' m', Ex m m' H H' → Rep X.K m' S' H' → Q b H') → t σ H Q
theorem simW_and {pos : Pos} : ∀ {xs : List Expr} {es : Es}, SimAll Γ X xs es → xs ≠ [] → SimW Γ X (.BoolOp .And xs pos) (evTA Γ es)
  | _, _, .nil, h => absurd rfl h
  | _, _, .cons (x := x) (e := e) (xs := xs) (es := es) _ h2 hs, _ => by
    cases hs with
    | nil =>
      obtain ⟨t, p, f⟩ := h2
      refine ⟨_, pw_and1 p, fun σ ρ H m S d S' Q r l h q => ?_⟩
      simp only [evTA] at h
      obtain ⟨k, S1, e1, h⟩ := bnd_ok h
      refine f σ ρ H m S k S1 Q r l e1 fun H1 m1 x1 r1 => ?_
      cases k with
      | true => rw [if_pos rfl] at h; obtain ⟨rfl, rfl⟩ := ret_ok h; exact q H1 m1 x1 r1
      | false => rw [if_neg Bool.false_ne_true] at h; obtain ⟨rfl, rfl⟩ := ret_ok h; exact q H1 m1 x1 r1
    | cons g1 g2 gs =>
      obtain ⟨t, p, f⟩ := h2
      obtain ⟨ts, ps, fs⟩ := simW_and (pos := pos) (SimAll.cons g1 g2 gs) (by simp)
      refine ⟨_, pw_and p ps, fun σ ρ H m S d S' Q r l h q => ?_⟩
      rw [evTA] at h
      obtain ⟨k, S1, e1, h⟩ := bnd_ok h
      refine f σ ρ H m S k S1 _ r l e1 fun H1 m1 x1 r1 => ?_
      cases k with
      | true =>
        rw [if_pos rfl] at h ⊢
        exact fs σ ρ H1 m1 S1 d S' Q r1 (l.ex x1) h fun H2 m2 x2 r2 => q H2 m2 (x1.trans x2) r2
      | false =>
        rw [if_neg Bool.false_ne_true] at h ⊢
        obtain ⟨rfl, rfl⟩ := ret_ok h
        exact q H1 m1 x1 r1
theorem simW_or {pos : Pos} : ∀ {xs : List Expr} {es : Es}, SimAll Γ X xs es → xs ≠ [] → SimW Γ X (.BoolOp .Or xs pos) (evTO Γ es)
  | _, _, .nil, h => absurd rfl h
  | _, _, .cons (x := x) (e := e) (xs := xs) (es := es) _ h2 hs, _ => by
    cases hs with
    | nil =>
      obtain ⟨t, p, f⟩ := h2
      refine ⟨_, pw_or1 p, fun σ ρ H m S d S' Q r l h q => ?_⟩
      simp only [evTO] at h
      obtain ⟨k, S1, e1, h⟩ := bnd_ok h
      refine f σ ρ H m S k S1 Q r l e1 fun H1 m1 x1 r1 => ?_
      cases k with
      | true => rw [if_pos rfl] at h; obtain ⟨rfl, rfl⟩ := ret_ok h; exact q H1 m1 x1 r1
      | false => rw [if_neg Bool.false_ne_true] at h; obtain ⟨rfl, rfl⟩ := ret_ok h; exact q H1 m1 x1 r1
    | cons g1 g2 gs =>
      obtain ⟨t, p, f⟩ := h2
      obtain ⟨ts, ps, fs⟩ := simW_or (pos := pos) (SimAll.cons g1 g2 gs) (by simp)
      refine ⟨_, pw_or p ps, fun σ ρ H m S d S' Q r l h q => ?_⟩
      rw [evTO] at h
      obtain ⟨k, S1, e1, h⟩ := bnd_ok h
      refine f σ ρ H m S k S1 _ r l e1 fun H1 m1 x1 r1 => ?_
      cases k with
      | false =>
        rw [if_neg Bool.false_ne_true] at h ⊢
        exact fs σ ρ H1 m1 S1 d S' Q r1 (l.ex x1) h fun H2 m2 x2 r2 => q H2 m2 (x1.trans x2) r2
      | true =>
        rw [if_pos rfl] at h ⊢
        obtain ⟨rfl, rfl⟩ := ret_ok h
        exact q H1 m1 x1 r1
theorem simT_and {pos : Pos} {xs : List Expr} {es : Es} (h : SimAll Γ X xs es) (hn : xs ≠ []) : SimT Γ X (.BoolOp .And xs pos) (.and_ es) := by
  obtain ⟨t, p, f⟩ := simW_and (pos := pos) h hn
  exact ⟨t, p.pt, fun σ ρ H m S b S' Q r l h q => f σ ρ H m S b S' Q r l (by simpa only [evT] using h) q⟩
theorem simT_or {pos : Pos} {xs : List Expr} {es : Es} (h : SimAll Γ X xs es) (hn : xs ≠ []) : SimT Γ X (.BoolOp .Or xs pos) (.or_ es) := by
  obtain ⟨t, p, f⟩ := simW_or (pos := pos) h hn
  exact ⟨t, p.pt, fun σ ρ H m S b S' Q r l h q => f σ ρ H m S b S' Q r l (by simpa only [evT] using h) q⟩
theorem sim_not {x : Expr} {a : E} {pos : Pos} (ha : SimE Γ X x a) : SimE Γ X (.UnaryOp .Not x pos) (.not_ a) := by
  obtain ⟨t, p, f⟩ := ha
  refine ⟨_, pe_notT p, fun σ ρ H m S d S' Q r l h q => ?_⟩
  simp only [evE] at h
  obtain ⟨d1, S1, e1, h⟩ := bnd_ok h
  obtain ⟨h, rfl⟩ := see_ok h
  simp only [Option.map_eq_some_iff] at h
  obtain ⟨k, e2, rfl⟩ := h
  exact f σ ρ H m S d1 _ _ r l e1 fun v H1 m1 x1 r1 i1 => ⟨k, tru_of r1 i1 e2, q _ H1 m1 x1 r1 (.bl _)⟩
theorem simT_not {x : Expr} {a : E} {pos : Pos} (ha : SimT Γ X x a) : SimT Γ X (.UnaryOp .Not x pos) (.not_ a) := by
  obtain ⟨t, p, f⟩ := ha
  refine ⟨_, pt_not p, fun σ ρ H m S d S' Q r l h q => ?_⟩
  simp only [evT] at h
  obtain ⟨k, S1, e1, h⟩ := bnd_ok h
  obtain ⟨rfl, rfl⟩ := ret_ok h
  exact f σ ρ H m S k _ _ r l e1 fun H1 m1 x1 r1 => q H1 m1 x1 r1
theorem sim_ifx {z x y : Expr} {c a b : E} {pos : Pos} (hc : SimT Γ X z c) (ha : SimE Γ X x a) (hb : SimE Γ X y b) : SimE Γ X (.IfExp z x y pos) (.ifx c a b) := by
  obtain ⟨tc, pc, fc⟩ := hc
  obtain ⟨ta, pa, fa⟩ := ha
  obtain ⟨tb, pb, fb⟩ := hb
  refine ⟨_, pe_ifExp pc pa pb, fun σ ρ H m S d S' Q r l h q => ?_⟩
  simp only [evE] at h
  obtain ⟨k, S1, e1, h⟩ := bnd_ok h
  refine fc σ ρ H m S k S1 _ r l e1 fun H1 m1 x1 r1 => ?_
  cases k with
  | true =>
    rw [if_pos rfl] at h ⊢
    exact fa σ ρ H1 m1 S1 d S' Q r1 (l.ex x1) h fun u H2 m2 x2 r2 i2 => q u H2 m2 (x1.trans x2) r2 i2
  | false =>
    rw [if_neg Bool.false_ne_true] at h ⊢
    exact fb σ ρ H1 m1 S1 d S' Q r1 (l.ex x1) h fun u H2 m2 x2 r2 i2 => q u H2 m2 (x1.trans x2) r2 i2
theorem pt_ifExp {c a b : Expr} {pos : Pos} {tc ta tb : TT} (hc : PT X c tc) (ha : PT X a ta) (hb : PT X b tb) : PT X (.IfExp c a b pos) (fun σ H Q => tc σ H fun k H1 => if k = true then ta σ H1 Q else tb σ H1 Q) := by
  refine ⟨fun pins s σ H Q I h => ?_⟩
  unfold PySem.isTrue
  refine wpAny_bind (thn (hc.run pins s σ H _ I h) fun d s1 ⟨H1, I1, q1⟩ => ?_)
  cases d with
  | true => exact ha.run pins s1 σ H1 Q I1 q1
  | false => exact hb.run pins s1 σ H1 Q I1 q1
theorem simT_ifx {z x y : Expr} {c a b : E} {pos : Pos} (hc : SimT Γ X z c) (ha : SimT Γ X x a) (hb : SimT Γ X y b) : SimT Γ X (.IfExp z x y pos) (.ifx c a b) := by
  obtain ⟨tc, pc, fc⟩ := hc
  obtain ⟨ta, pa, fa⟩ := ha
  obtain ⟨tb, pb, fb⟩ := hb
  refine ⟨_, pt_ifExp pc pa pb, fun σ ρ H m S d S' Q r l h q => ?_⟩
  simp only [evT] at h
  obtain ⟨k, S1, e1, h⟩ := bnd_ok h
  refine fc σ ρ H m S k S1 _ r l e1 fun H1 m1 x1 r1 => ?_
  cases k with
  | true =>
    rw [if_pos rfl] at h ⊢
    exact fa σ ρ H1 m1 S1 d S' Q r1 (l.ex x1) h fun H2 m2 x2 r2 => q H2 m2 (x1.trans x2) r2
  | false =>
    rw [if_neg Bool.false_ne_true] at h ⊢
    exact fb σ ρ H1 m1 S1 d S' Q r1 (l.ex x1) h fun H2 m2 x2 r2 => q H2 m2 (x1.trans x2) r2
/-- any other expression, as a test -/
def plainT : E → Bool
  | .and_ _ => false
  | .or_ _ => false
  | .not_ _ => false
  | .ifx _ _ _ => false
  | _ => true
theorem evT_plain {e : E} (h : plainT e = true) (ρ : My.Env) : evT Γ e ρ = bnd (evE Γ e ρ) fun x => see fun s => truF s x := by
  cases e <;> first | (cases h; done) | rfl | (simp only [evT])
theorem simT_plain {x : Expr} {e : E} (hp : plainT e = true) (hs : SimE Γ X x e) (he : ∀ whole, PySem.isTrue x X.env whole = (do let v ← whole; standAt x.pos; holding [v] (truthy v))) : SimT Γ X x e := by
  obtain ⟨t, p, f⟩ := hs
  refine ⟨_, pt_truth p he, fun σ ρ H m S d S' Q r l h q => ?_⟩
  rw [evT_plain hp] at h
  obtain ⟨d1, S1, e1, h⟩ := bnd_ok h
  obtain ⟨e2, rfl⟩ := see_ok h
  exact f σ ρ H m S d1 _ _ r l e1 fun v H1 m1 x1 r1 i1 => ⟨d, tru_of r1 i1 e2, q H1 m1 x1 r1⟩
/-! ### subscripts, slices -/
theorem sim_idx {x y : Expr} {a b : E} {pos : Pos} (hn : plainI y = true) (ha : SimE Γ X x a) (hb : SimE Γ X y b) : SimE Γ X (.Subscript x y pos) (.idx a b) := by
  obtain ⟨ta, pa, fa⟩ := ha
  obtain ⟨tb, pb, fb⟩ := hb
  obtain ⟨ro, ho, g⟩ := s_ix (X := X)
  have hx : PlainIx y := by cases y <;> first | (exact fun _ _ => rfl) | cases hn
  refine ⟨_, pe_ix ho pa pb hx, fun σ ρ H m S d S' Q r l h q => ?_⟩
  simp only [evE] at h
  obtain ⟨d1, S1, e1, h⟩ := bnd_ok h
  obtain ⟨d2, S2, e2, h⟩ := bnd_ok h
  refine fa σ ρ H m S d1 S1 _ r l e1 fun v H1 m1 x1 r1 i1 => ?_
  refine fb σ ρ H1 m1 S1 d2 S2 _ r1 (l.ex x1) e2 fun w H2 m2 x2 r2 i2 => ?_
  exact g v w d1 d2 m2 S2 H2 d S' Q r2 (i1.ex x2) i2 h fun u H3 m3 x3 r3 i3 => q u H3 m3 ((x1.trans x2).trans x3) r3 i3
theorem sim_p0 : SimP Γ X none .nil := ⟨_, po_none, fun σ ρ H m S o S' Q r l h q => by
  simp only [evP] at h
  obtain ⟨rfl, rfl⟩ := ret_ok h
  exact q H m .refl r⟩
theorem sim_p1 {x : Expr} {e : E} (h : SimE Γ X x e) : SimP Γ X (some x) (.cons e .nil) := by
  obtain ⟨t, p, f⟩ := h
  refine ⟨_, po_some p, fun σ ρ H m S o S' Q r l h q => ?_⟩
  simp only [evP] at h
  obtain ⟨d1, S1, e1, h⟩ := bnd_ok h
  refine f σ ρ H m S d1 S1 _ r l e1 fun v H1 m1 x1 r1 i1 => ?_
  split at h
  · obtain ⟨rfl, rfl⟩ := ret_ok h
    cases i1
    exact ⟨_, rfl, q H1 m1 x1 r1⟩
  · exact (no_ok h).elim
theorem sim_slc {x : Expr} {lo hi : Option Expr} {a : E} {l h : Es} {p2 pos : Pos} (ha : SimE Γ X x a) (hl : SimP Γ X lo l) (hh : SimP Γ X hi h) : SimE Γ X (.Subscript x (.Slice lo hi none p2) pos) (.slc a l h) := by
  obtain ⟨ta, pa, fa⟩ := ha
  obtain ⟨tl, pl, fl⟩ := hl
  obtain ⟨th, ph, fh⟩ := hh
  obtain ⟨ro, ho, g⟩ := s_slc (X := X)
  refine ⟨_, pe_slice ho pa pl ph, fun σ ρ H m S d S' Q r l h q => ?_⟩
  simp only [evE] at h
  obtain ⟨d1, S1, e1, h⟩ := bnd_ok h
  obtain ⟨o2, S2, e2, h⟩ := bnd_ok h
  obtain ⟨o3, S3, e3, h⟩ := bnd_ok h
  refine fa σ ρ H m S d1 S1 _ r l e1 fun v H1 m1 x1 r1 i1 => ?_
  refine fl σ ρ H1 m1 S1 o2 S2 _ r1 (l.ex x1) e2 fun H2 m2 x2 r2 => ?_
  refine fh σ ρ H2 m2 S2 o3 S3 _ r2 ((l.ex x1).ex x2) e3 fun H3 m3 x3 r3 => ?_
  exact g v d1 o2 o3 m3 S3 H3 d S' Q r3 ((i1.ex x2).ex x3) h fun u H4 m4 x4 r4 i4 => q u H4 m4 (((x1.trans x2).trans x3).trans x4) r4 i4
/-! ### calls -/
theorem sim_call (ok : Okx Γ st X) {f : Str} {xs : List Expr} {es : Es} {p pos : Pos} (hg : glB st.sc f = true) (hd : dbg f = false) (hc : chkEs es st xs = true) (h : SimA Γ X xs es) : SimE Γ X (.Call (.Name f p) xs [] pos) (.call f es) := by
  rcases ok.fns f with hno | ⟨k, fa, fd, ps, hr, hm, hk, hb, hF, hlen⟩
  · refine .never fun ρ S d S' e => ?_
    simp only [evE] at e
    obtain ⟨ds, S1, _, e⟩ := bnd_ok e
    rw [hno] at e
    cases e
  · obtain ⟨t, pa, g⟩ := h
    have key : ∀ (σ : L2.St) (ρ : My.Env) (H : Hp) (m : Mp) (S : Store) (d : D) (S' : Store) (Q : VK), Rep X.K m S H → RepL X.K m H σ ρ → evE Γ (.call f es) ρ S = .ok d S' → Post X.K m H S' d Q →
        t σ H fun vs H1 => spG X.K (Γ.call f) ps.length (vs ++ []) H1 Q E0 := fun σ ρ H m S d S' Q r l e q => by
      simp only [evE] at e
      obtain ⟨ds, S1, e1, e⟩ := bnd_ok e
      refine g σ ρ H m S ds S1 _ r l e1 fun vs H1 m1 x1 r1 i1 => ?_
      rw [List.append_nil]
      exact ⟨by rw [i1.length]; exact hlen _ _ _ _ e, m1, S1, ds, d, S', r1, i1, e, fun u H2 m2 x2 r2 i2 => q u H2 m2 (x1.trans x2) r2 i2⟩
    cases xs with
    | nil =>
      cases es with
      | cons _ _ => simp only [chkEs] at hc; cases hc
      | nil =>
        refine ⟨_, pe_call0 (p := p) (pos := pos) hF hr (gl_of ok hg) hm hk hb .nil pass0 hd, fun σ ρ H m S d S' Q r l e q => ?_⟩
        simp only [evE, evEs] at e
        obtain ⟨ds, S1, e1, e⟩ := bnd_ok e
        obtain ⟨rfl, rfl⟩ := ret_ok e1
        exact ⟨hlen _ _ _ _ e, m, _, [], d, S', r, .nil, e, q⟩
    | cons x xs =>
      have hst : notStar x = true := by
        cases es with
        | nil => simp only [chkEs] at hc; cases hc
        | cons e es => simp only [chkEs, Bool.and_eq_true] at hc; exact hc.1.1
      have hpl : (backTo pos (starEach xs X.env)).any (·.1) = false := by
        cases es with
        | nil => simp only [chkEs] at hc; cases hc
        | cons e es => simp only [chkEs, Bool.and_eq_true] at hc; exact plainArgs hc.2
      exact ⟨_, pe_call (p := p) hF hr (gl_of ok hg) hm hk hb .nil pass0 pa hd (starEach_cons hst) hpl, key⟩
theorem blt_mem (b : Blt) : Str.ofString (bltN b) ∈ blts := by cases b <;> decide +kernel
theorem blt_plain (b : Blt) : Str.ofString (bltN b) ≠ ("__name__" : Str) ∧ (Str.ofString (bltN b) == ("__debug__" : Str)) = false := by cases b <;> exact ⟨by decide +kernel, by decide +kernel⟩
theorem blt_boot (b : Blt) : bootBuiltins (Str.ofString (bltN b)) = some (bltV b) := by cases b <;> decide +kernel
theorem sim_blt (ok : Okx Γ st X) {b : Blt} {xs : List Expr} {es : Es} {p pos : Pos} (hg : glB st.sc (Str.ofString (bltN b)) = true) (hc : chkEs es st xs = true) (h : SimA Γ X xs es) : SimE Γ X (.Call (.Name (Str.ofString (bltN b)) p) xs [] pos) (.blt b es) := by
  obtain ⟨r, hr, g⟩ := c_blt ok.calm b
  obtain ⟨t, pa, gt⟩ := h
  cases xs with
  | nil =>
    cases es with
    | cons _ _ => simp only [chkEs] at hc; cases hc
    | nil =>
      refine .never fun ρ S d S' e => ?_
      simp only [evE, evEs] at e
      obtain ⟨ds, S1, e1, e⟩ := bnd_ok e
      obtain ⟨rfl, rfl⟩ := ret_ok e1
      cases e
  | cons x xs =>
    have hst : notStar x = true := by
      cases es with
      | nil => simp only [chkEs] at hc; cases hc
      | cons e es => simp only [chkEs, Bool.and_eq_true] at hc; exact hc.1.1
    have hpl : (backTo pos (starEach xs X.env)).any (·.1) = false := by
      cases es with
      | nil => simp only [chkEs] at hc; cases hc
      | cons e es => simp only [chkEs, Bool.and_eq_true] at hc; exact plainArgs hc.2
    have pe : PE X (.Call (.Name (Str.ofString (bltN b)) p) (x :: xs) [] pos) (tCB r t) := by
      have hm := ok.blt _ (blt_mem b)
      have hv := blt_boot b
      obtain ⟨h1, h2⟩ := blt_plain b
      cases b <;> first
        | exact pe_callB (p := p) hr (gl_of ok hg) hm hv pa h1 h2 (starEach_cons hst) hpl
        | exact pe_callTy (p := p) hr (gl_of ok hg) hm hv pa h1 h2 (starEach_cons hst) hpl
    refine ⟨_, pe, fun σ ρ H m S d S' Q r l e q => ?_⟩
    simp only [evE] at e
    obtain ⟨ds, S1, e1, e⟩ := bnd_ok e
    refine gt σ ρ H m S ds S1 _ r l e1 fun vs H1 m1 x1 r1 i1 => ?_
    exact g vs ds m1 S1 H1 d S' Q r1 i1 e fun u H2 m2 x2 r2 i2 => q u H2 m2 (x1.trans x2) r2 i2
/-! ### isinstance -/
theorem ty_mem (t : Ty) : Str.ofString (tyN t) ∈ blts := by cases t <;> decide +kernel
theorem ty_plain (t : Ty) : Str.ofString (tyN t) ≠ ("__name__" : Str) ∧ (Str.ofString (tyN t) == ("__debug__" : Str)) = false := by cases t <;> exact ⟨by decide +kernel, by decide +kernel⟩
theorem ty_boot (t : Ty) : bootBuiltins (Str.ofString (tyN t)) = some (.type (tyN t)) := by cases t <;> decide +kernel
theorem pe_ty (ok : Okx Γ st X) {t : Ty} {pos : Pos} (hg : glB st.sc (Str.ofString (tyN t)) = true) : PE X (.Name (Str.ofString (tyN t)) pos) (tC (.ty (tyN t))) :=
  pe_bltn (gl_of ok hg) (ok.blt _ (ty_mem t)) (ty_boot t) rfl (ty_plain t).1 (ty_plain t).2
theorem isi_mem : Str.ofString "isinstance" ∈ blts := by decide +kernel
theorem sim_isi (ok : Okx Γ st X) {x : Expr} {a : E} {t : Ty} {p p2 pos : Pos} (hg : glB st.sc ("isinstance" : Str) = true) (hg2 : glB st.sc (Str.ofString (tyN t)) = true) (hst : notStar x = true) (h : SimE Γ X x a) :
    SimE Γ X (.Call (.Name ("isinstance" : Str) p) [x, .Name (Str.ofString (tyN t)) p2] [] pos) (.isi a t) := by
  obtain ⟨ta, pa, g⟩ := h
  refine ⟨_, pe_callB (p := p) call_isi (gl_of ok hg) (ok.blt _ isi_mem) (by decide +kernel) (pa_cons pa (pa_cons (pe_ty ok hg2) pa_nil (starEach_cons rfl)) (starEach_cons hst)) (by decide +kernel) (by decide +kernel) (starEach_cons hst) rfl, fun σ ρ H m S d S' Q r l e q => ?_⟩
  simp only [evE] at e
  obtain ⟨d1, S1, e1, e0⟩ := bnd_ok e
  obtain ⟨e2, rfl⟩ := see_ok e0
  simp only [Option.map_eq_some_iff] at e2
  obtain ⟨n, e3, rfl⟩ := e2
  refine g σ ρ H m S d1 _ _ r l e1 fun v H1 m1 x1 r1 i1 => ?_
  exact ⟨v, _, _, _, _, rfl, .ty _, tn_of r1 i1 e3, kit_ty (kit_tn n t), q _ H1 m1 x1 r1 (.bl _)⟩
theorem pa_tys (ok : Okx Γ st X) : ∀ {ts : List Ty} {ys : List Expr}, chkTy ts st.sc ys = true → ∃ t : TA, PA X ys t ∧ ∀ σ H (Q : List V → Hp → Prop), Q (ts.map fun t => V.ty (tyN t)) H → t σ H Q
  | [], [], _ => ⟨_, pa_nil, fun _ _ _ h => h⟩
  | [], _ :: _, h => by simp only [chkTy] at h; cases h
  | _ :: _, [], h => by simp only [chkTy] at h; cases h
  | t :: ts, y :: ys, h => by
    cases y <;> first | (simp only [chkTy] at h; cases h; done) | skip
    simp only [chkTy, Bool.and_eq_true, decide_eq_true_eq] at h
    obtain ⟨⟨rfl, h2⟩, h3⟩ := h
    obtain ⟨u, pu, g⟩ := pa_tys ok h3
    exact ⟨_, pa_cons (pe_ty ok h2) pu (starEach_cons rfl), fun σ H Q q => g σ H _ q⟩
theorem cls_tys : ∀ ts : List Ty, Paired ClsV (ts.map fun t => V.ty (tyN t)) (ts.map fun t => Value.type (tyN t))
  | [] => .nil
  | t :: ts => .cons (.ty _) (cls_tys ts)
theorem kit_tys {K : PySem.W.Frag} (n : Tn) : ∀ ts : List Ty, PySem.W.kitAny K (.type (tnS n)) (ts.map fun t => Value.type (tyN t)) = some (ts.any (isTn n))
  | [] => rfl
  | t :: ts => by
    refine kitAny_cons (b := isTn n t) (kit_ty (kit_tn n t)) (fun hb => ?_) fun hb => ?_
    · rw [List.any_cons, hb]; exact kit_tys n ts
    · rw [List.any_cons, hb]; rfl
theorem sim_isis (ok : Okx Γ st X) {x : Expr} {a : E} {ts : List Ty} {ys : List Expr} {p pos p2 : Pos} {k2 : Nat} (hg : glB st.sc ("isinstance" : Str) = true) (hg2 : chkTy ts st.sc ys = true) (hst : notStar x = true) (h : SimE Γ X x a) :
    SimE Γ X (.Call (.Name ("isinstance" : Str) p) [x, .Tuple ys k2 p2] [] pos) (.isis a ts) := by
  obtain ⟨ta, pa, g⟩ := h
  obtain ⟨tt, pt, gt⟩ := pa_tys ok hg2
  refine ⟨_, pe_callB (p := p) call_isiT (gl_of ok hg) (ok.blt _ isi_mem) (by decide +kernel) (pa_cons pa (pa_cons (pe_tup pt) pa_nil (starEach_cons rfl)) (starEach_cons hst)) (by decide +kernel) (by decide +kernel) (starEach_cons hst) rfl, fun σ ρ H m S d S' Q r l e q => ?_⟩
  simp only [evE] at e
  obtain ⟨d1, S1, e1, e0⟩ := bnd_ok e
  obtain ⟨n, S2, e2, e3⟩ := bnd_ok e0
  obtain ⟨e2, rfl⟩ := see_ok e2
  split at e3
  · rename_i hz
    obtain ⟨rfl, rfl⟩ := ret_ok e3
    refine g σ ρ H m S d1 _ _ r l e1 fun v H1 m1 x1 r1 i1 => ?_
    refine gt σ H1 _ ⟨by rw [List.length_map]; exact hz, fun T hT => ?_⟩
    have gr := grow_upd (H := H1) (o := .tup (ts.map fun t => V.ty (tyN t))) hT
    exact ⟨v, T, _, _, _, _, rfl, upd_same, cls_tys ts, tn_of (r1.grow gr) (i1.ex (.grow gr)) e2, kit_tys n ts, q _ _ m1 (x1.trans (.grow gr)) (r1.grow gr) (.bl _)⟩
  · exact (no_ok e3).elim
/-! ### methods -/
def mthT : Mth → String
  | .append => "list"
  | .pop => "list"
  | .popAt => "list"
  | .reverse => "list"
  | .clear => "list"
  | .join => "str"
  | .split => "str"
  | .find => "str"
  | .partition => "str"
  | .startswith => "str"
def mthI : Mth → String
  | .append => "list.append"
  | .pop => "list.pop"
  | .popAt => "list.pop"
  | .reverse => "list.reverse"
  | .clear => "list.clear"
  | .join => "str.join"
  | .split => "str.split"
  | .find => "str.find"
  | .partition => "str.partition"
  | .startswith => "str.startswith"
theorem m_mth : ∀ m : Mth, MtS X (mthI m) (mthF m)
  | .append => m_append
  | .pop => m_pop
  | .popAt => m_pop0
  | .reverse => m_reverse
  | .clear => m_clear
  | .join => m_join
  | .split => m_split
  | .find => m_find
  | .partition => m_partition
  | .startswith => m_startswith
theorem mth_attrs : ∀ m : Mth, PlainAttrs (mthT m)
  | .append | .pop | .popAt | .reverse | .clear => PySem.F.plainAttrs_list
  | .join | .split | .find | .partition | .startswith => PySem.F.plainAttrs_str
theorem mth_slot : ∀ m : Mth, Slot (mthT m) (Str.ofString (mthN m)) (mthI m)
  | .append => PySem.F.slot_list_append
  | .pop => PySem.F.slot_list_pop
  | .popAt => PySem.F.slot_list_pop
  | .reverse => PySem.F.slot_list_reverse
  | .clear => PySem.F.slot_list_clear
  | .join => PySem.F.slot_str_join
  | .split => PySem.F.slot_str_split
  | .find => PySem.F.slot_str_find
  | .partition => PySem.F.slot_str_partition
  | .startswith => PySem.F.slot_str_startswith
theorem mth_type : ∀ m : Mth, typeOf (.builtin (mthI m)) = pure (.type "method_descriptor")
  | .append => PySem.F.type_list_append
  | .pop => PySem.F.type_list_pop
  | .popAt => PySem.F.type_list_pop
  | .reverse => PySem.F.type_list_reverse
  | .clear => PySem.F.type_list_clear
  | .join => PySem.F.type_str_join
  | .split => PySem.F.type_str_split
  | .find => PySem.F.type_str_find
  | .partition => PySem.F.type_str_partition
  | .startswith => PySem.F.type_str_startswith
theorem mthTy_ok {m : Mp} {S : Store} {H : Hp} {v : V} {a : D} {mt : Mth} (r : Rep X.K m S H) (ha : IsD X.K m H v a) (h : mthTy mt a S = some ()) : tyV X.K (mthT mt) v H := by
  have lst : ∀ {n}, IsD X.K m H v (.ref n) → (rdL S n).map (fun _ => ()) = some () → tyV X.K "list" v H := fun {n} ha h => by
    simp only [Option.map_eq_some_iff] at h
    obtain ⟨xs, e, _⟩ := h
    obtain ⟨p, vs, rfl, _, h1, h2⟩ := r.rdL ha e
    exact .inl ⟨rfl, _, h1⟩
  cases mt <;> cases a <;> first | (simp only [mthTy] at h; cases h; done) | (exact lst ha h) | (cases ha; rfl)
theorem attrBase {x : Expr} {nm : Str} {env : PySem.Env} (h : plainO x = true) : attributeBase x nm env (eval x env) = eval x env := by
  unfold plainO at h
  split at h
  · cases h
  · rename_i hn
    unfold attributeBase
    split
    · rename_i id p pos
      exact absurd rfl (hn id p pos)
    · rfl
theorem few_args {xs : List Expr} {env : PySem.Env} {pos : Pos} {es : Es} {st : Sta} (hc : chkEs es st xs = true) (hl : xs.length < 29) :
    ((backTo pos (starEach xs env)).all (fun x => !x.1) && (backToKw pos (keywordEach [] env)).all (fun x => x.1.isSome)
      && decide (xs.length + ([] : List Keyword).length + (if ([] : List Keyword).isEmpty then 0 else 1) < 30)) = true := by
  have h1 := plainArgs (env := env) (pos := pos) hc
  have h2 : (backTo pos (starEach xs env)).all (fun x => !x.1) = true := by
    rw [List.all_eq_true]
    intro y hy
    rw [List.any_eq_false] at h1
    have := h1 y hy
    simpa using this
  rw [h2]
  simp [keywordEach, backToKw]
  omega
theorem sim_mth {x : Expr} {o : E} {mt : Mth} {xs : List Expr} {es : Es} {apos cpos : Pos} (hp : plainO x = true) (hl : (apos.endLine == cpos.line) = true) (hn : xs.length < 29) (hc : chkEs es st xs = true) (ho : SimE Γ X x o) (ha : SimA Γ X xs es) :
    SimE Γ X (.Call (.Attribute x (Str.ofString (mthN mt)) apos) xs [] cpos) (.mth o mt es) := by
  obtain ⟨to, po, fo⟩ := ho
  obtain ⟨ta, pa, fa⟩ := ha
  obtain ⟨rm, hm, g⟩ := m_mth (X := X) mt
  cases xs with
  | nil =>
    cases es with
    | cons _ _ => simp only [chkEs] at hc; cases hc
    | nil =>
      refine ⟨_, pe_bm0 (mth_attrs mt) (mth_slot mt) (mth_type mt) hm po (attrBase hp) hl, fun σ ρ H m S d S' Q r l e q => ?_⟩
      simp only [evE, evEs] at e
      obtain ⟨d1, S1, e1, e3⟩ := bnd_ok e
      obtain ⟨u, e2, e4⟩ := see_bnd e3
      rw [ret_bnd] at e4
      refine fo σ ρ H m S d1 _ _ r l e1 fun v H1 m1 x1 r1 i1 => ⟨mthTy_ok r1 i1 e2, ?_⟩
      exact g v [] d1 [] m1 _ H1 d S' Q r1 i1 .nil e4 fun u H2 m2 x2 r2 i2 => q u H2 m2 (x1.trans x2) r2 i2
  | cons y ys =>
    have hst : notStar y = true := by
      cases es with
      | nil => simp only [chkEs] at hc; cases hc
      | cons e es => simp only [chkEs, Bool.and_eq_true] at hc; exact hc.1.1
    have hpl : (backTo cpos (starEach ys X.env)).any (·.1) = false := by
      cases es with
      | nil => simp only [chkEs] at hc; cases hc
      | cons e es => simp only [chkEs, Bool.and_eq_true] at hc; exact plainArgs hc.2
    refine ⟨_, pe_bm (mth_attrs mt) (mth_slot mt) (mth_type mt) hm po pa (attrBase hp) (few_args hc hn) hl (starEach_cons hst) hpl, fun σ ρ H m S d S' Q r l e q => ?_⟩
    simp only [evE] at e
    obtain ⟨d1, S1, e1, e0⟩ := bnd_ok e
    obtain ⟨u, e2, e4⟩ := see_bnd e0
    obtain ⟨ds, S3, e3, e5⟩ := bnd_ok e4
    refine fo σ ρ H m S d1 _ _ r l e1 fun v H1 m1 x1 r1 i1 => ⟨mthTy_ok r1 i1 e2, ?_⟩
    refine fa σ ρ H1 m1 _ ds S3 _ r1 (l.ex x1) e3 fun vs H2 m2 x2 r2 i2 => ?_
    exact g v vs d1 ds m2 S3 H2 d S' Q r2 (i1.ex x2) i2 e5 fun u H3 m3 x3 r3 i3 => q u H3 m3 ((x1.trans x2).trans x3) r3 i3
end
end My

/-! Targets, walks, comprehensions; all expressions. -/
namespace My
open PySem L2
section
variable {Γ : Tx} {X : Cx} {st : Sta}
/-! ### targets -/
/-- only these slots differ -/
def Sm (is : List Nat) (σ σ' : L2.St) : Prop := σ'.length = σ.length ∧ ∀ j, j ∉ is → σ'[j]? = σ[j]?
theorem Sm.refl {is : List Nat} {σ : L2.St} : Sm is σ σ := ⟨rfl, fun _ _ => rfl⟩
theorem Sm.trans {is : List Nat} {a b c : L2.St} (h : Sm is a b) (g : Sm is b c) : Sm is a c := ⟨g.1.trans h.1, fun j hj => (g.2 j hj).trans (h.2 j hj)⟩
theorem Sm.mono {is js : List Nat} {a b : L2.St} (h : Sm is a b) (s : ∀ i ∈ is, i ∈ js) : Sm js a b := ⟨h.1, fun j hj => h.2 j fun z => hj (s j z)⟩
theorem Sm.set {is : List Nat} {σ : L2.St} {i : Nat} {o : Option V} (h : i ∈ is) : Sm is σ (σ.set i o) := ⟨by simp, fun j hj => by
  rw [List.getElem?_set_ne]; rintro rfl; exact hj h⟩
def SimG (X : Cx) (py : Expr) (t : T) : Prop := ∃ g : TG, PG X py g ∧ ∀ v d σ ρ ρ' H m (Q : L2.St → Hp → Prop), RepL X.K m H σ ρ → IsD X.K m H v d → asgT t d ρ = some ρ' → (∀ σ', RepL X.K m H σ' ρ' → Sm (tgI t) σ σ' → Q σ' H) → g v σ H Q
def SimGs (X : Cx) (pys : List Expr) (ts : List T) : Prop := ∃ g : TGs, PGs X pys g ∧ ∀ vs ds σ ρ ρ' H m (Q : L2.St → Hp → Prop), RepL X.K m H σ ρ → IsDs X.K m H vs ds → asgTs ts ds ρ = some ρ' → (∀ σ', RepL X.K m H σ' ρ' → Sm (tgI.go ts) σ σ' → Q σ' H) → g vs σ H Q
theorem loc_of (ok : Okx Γ st X) {x : Str} (h : locB st x = true) : Loc X.env.scope x ∧ (X.fn x = true ∨ X.env.scope.names.lookup x = some .local) := by
  unfold locB at h
  rw [ok.sc]
  split at h
  · rename_i e; exact ⟨.inl e, .inr e⟩
  · rename_i e; exact ⟨.inr e, .inl (ok.fn x h)⟩
  · cases h
theorem each_len : ∀ {ts : List T} {st : Sta} {es : List Expr} {env : PySem.Env}, chkTs ts st es = true → (assignEach es env).length = ts.length ∧ (assignEach es env).findIdx? (·.1) = none ∧ es.length = ts.length
  | [], st, [], env, _ => ⟨rfl, rfl, rfl⟩
  | [], st, _ :: _, env, h => by simp only [chkTs] at h; cases h
  | _ :: _, st, [], env, h => by simp only [chkTs] at h; cases h
  | t :: ts, st, e :: es, env, h => by
    simp only [chkTs, Bool.and_eq_true] at h
    obtain ⟨h1, h2, h3⟩ := each_len (env := env) h.2
    have e1 : assignEach (e :: es) env = (false, assign e env) :: assignEach es env := by
      cases e <;> first | rfl | (have q := h.1; cases t <;> simp only [chkT] at q <;> cases q)
    rw [e1]
    refine ⟨by simp [h1], ?_, by simp [h3]⟩
    rw [List.findIdx?_cons, h2]
    rfl
mutual
theorem simG (ok : Okx Γ st X) : ∀ (t : T) (py : Expr), chkT t st py = true → SimG X py t
  | .name i, py, h => by
    cases py <;> first | (simp only [chkT] at h; cases h; done) | skip
    rename_i x pos
    simp only [chkT, Bool.and_eq_true, decide_eq_true_eq] at h
    obtain ⟨h1, h2⟩ := loc_of ok h.2
    refine ⟨_, pg_name (i := i) ok.nd (by rw [ok.N]; exact h.1) h1 h2, fun v d σ ρ ρ' H m Q l hv e q => ?_⟩
    simp only [asgT] at e
    cases e
    exact q _ (l.set i hv) (Sm.set (by simp [tgI]))
  | .tup ts, py, h => by
    cases py <;> first | (simp only [chkT] at h; cases h; done) | skip
    rename_i es k pos
    simp only [chkT] at h
    obtain ⟨g, pg, f⟩ := simGs ok ts es h
    obtain ⟨h1, h2, h3⟩ := each_len (env := X.env) h
    refine ⟨_, pg_tup ok.calm pg h1 h2, fun v d σ ρ ρ' H m Q l hv e q => ?_⟩
    cases d with
    | tup xs =>
      simp only [asgT] at e
      cases hv with
      | tup hq hs =>
        rename_i a vs
        refine ⟨a, vs, rfl, hq, ?_, f vs xs σ ρ ρ' H m Q l hs e q⟩
        rw [hs.length]
        exact asg_len e
    | _ => simp only [asgT] at e; cases e
theorem simGs (ok : Okx Γ st X) : ∀ (ts : List T) (pys : List Expr), chkTs ts st pys = true → SimGs X pys ts
  | [], [], _ => ⟨_, pgs_nil, fun vs ds σ ρ ρ' H m Q l hv e q => by
      cases ds with
      | nil =>
        simp only [asgTs] at e
        cases e
        cases hv
        exact ⟨rfl, q σ l .refl⟩
      | cons _ _ => simp only [asgTs] at e; cases e⟩
  | [], _ :: _, h => by simp only [chkTs] at h; cases h
  | _ :: _, [], h => by simp only [chkTs] at h; cases h
  | t :: ts, py :: pys, h => by
    simp only [chkTs, Bool.and_eq_true] at h
    obtain ⟨g, pg, f⟩ := simG ok t py h.1
    obtain ⟨gs, pgs, fs⟩ := simGs ok ts pys h.2
    have e1 : (assignEach (py :: pys) X.env).map (·.2) = assign py X.env :: (assignEach pys X.env).map (·.2) := by
      cases py <;> first | rfl | (have q := h.1; cases t <;> simp only [chkT] at q <;> cases q)
    refine ⟨_, pgs_cons pg pgs e1, fun vs ds σ ρ ρ' H m Q l hv e q => ?_⟩
    cases ds with
    | nil => simp only [asgTs] at e; cases e
    | cons d ds =>
      simp only [asgTs, Option.bind_eq_some_iff] at e
      obtain ⟨ρ1, e1, e2⟩ := e
      cases hv with
      | cons h1 h2 =>
        refine ⟨_, _, rfl, f _ d σ ρ ρ1 H m _ l h1 e1 fun σ1 l1 s1 => ?_⟩
        exact fs _ ds σ1 ρ1 ρ' H m Q l1 h2 e2 fun σ2 l2 s2 => q σ2 l2 ((s1.mono fun i hi => by simp [tgI.go, hi]).trans (s2.mono fun i hi => by simp [tgI.go, hi]))
theorem asg_len : ∀ {ts : List T} {ds : List D} {ρ ρ' : My.Env}, asgTs ts ds ρ = some ρ' → ds.length = ts.length
  | [], [], _, _, _ => rfl
  | [], _ :: _, _, _, h => by simp only [asgTs] at h; cases h
  | _ :: _, [], _, _, h => by simp only [asgTs] at h; cases h
  | _ :: ts, _ :: ds, _, _, h => by
    simp only [asgTs, Option.bind_eq_some_iff] at h
    obtain ⟨_, _, e⟩ := h
    simp [asg_len e]
end
theorem wipe_get (σ : L2.St) (j : Nat) : ∀ vs : List Nat, (L2.wipe σ vs)[j]? = if j ∈ vs then (if j < σ.length then some none else none) else σ[j]?
  | [] => by simp [L2.wipe]
  | v :: vs => by
    unfold L2.wipe
    by_cases h : v = j
    · subst h
      simp only [List.mem_cons, true_or, if_true]
      by_cases hl : v < σ.length
      · rw [if_pos hl, List.getElem?_set_self (by rw [L2.wipe_length]; exact hl)]
      · rw [if_neg hl, List.getElem?_eq_none (by rw [List.length_set, L2.wipe_length]; omega)]
    · rw [List.getElem?_set_ne h, wipe_get σ j vs]
      have : (j ∈ v :: vs) ↔ j ∈ vs := by simp [Ne.symm h]
      simp only [this]
theorem wipe_sm {σ σ2 : L2.St} {is vs : List Nat} (h : Sm is (L2.wipe σ vs) σ2) (s : ∀ i ∈ is, i ∈ vs) : L2.wipe σ2 vs = L2.wipe σ vs := by
  have hl : σ2.length = σ.length := by rw [h.1, L2.wipe_length]
  apply List.ext_getElem?
  intro j
  rw [wipe_get, wipe_get]
  by_cases hj : j ∈ vs
  · rw [if_pos hj, if_pos hj, hl]
  · rw [if_neg hj, if_neg hj, h.2 j fun z => hj (s j z), wipe_get, if_neg hj]
/-! ### walks -/
theorem sim_itval {tg x : Expr} {e : E} (h : SimE Γ X x e) : SimI Γ X tg x (.val e) := by
  obtain ⟨t, p, f⟩ := h
  refine ⟨_, pi_seq p, fun σ ρ H m S w S' R r l h q => ?_⟩
  simp only [evIt] at h
  obtain ⟨d1, S1, e1, h2⟩ := bnd_ok h
  obtain ⟨e2, rfl⟩ := see_ok h2
  refine f σ ρ H m S d1 _ _ r l e1 fun v H1 m1 x1 r1 i1 => ?_
  cases d1 with
  | tup xs =>
    cases e2
    cases i1 with
    | tup h1 h2 => exact .inr (.inl ⟨_, rfl, ⟨_, h1⟩, q _ H1 m1 x1 r1 (jok_tup h1 h2)⟩)
  | str z =>
    cases e2
    cases i1
    exact .inr (.inr ⟨z, rfl, q _ H1 m1 x1 r1 (jok_str z)⟩)
  | ref n =>
    simp only [wkOf, Option.map_eq_some_iff] at e2
    obtain ⟨xs, e3, rfl⟩ := e2
    obtain ⟨a, vs, rfl, ⟨_, hm⟩, h1, h2⟩ := r1.rdL i1 e3
    exact .inl ⟨_, rfl, ⟨_, h1⟩, q _ H1 m1 x1 r1 (jok_list hm)⟩
  | _ => cases e2
theorem inRng_ok {i : Int} (h : inRng i = true) : -(2 ^ 62) ≤ i ∧ i < 2 ^ 62 := of_decide_eq_true h
theorem rng_mem : Str.ofString "range" ∈ blts := by decide +kernel
theorem sim_rng1 (ok : Okx Γ st X) {tg x : Expr} {a : E} {p pos : Pos} (hg : glB st.sc ("range" : Str) = true) (hst : notStar x = true) (h : SimE Γ X x a) : SimI Γ X tg (.Call (.Name ("range" : Str) p) [x] [] pos) (.rng1 a) := by
  obtain ⟨t, pt, f⟩ := h
  refine ⟨_, pi_range1 (gl_of ok hg) (ok.blt _ rng_mem) (pa_cons pt pa_nil (starEach_cons hst)) (starEach_cons hst), fun σ ρ H m S w S' R r l h q => ?_⟩
  simp only [evIt] at h
  obtain ⟨d1, S1, e1, h2⟩ := bnd_ok h
  refine f σ ρ H m S d1 S1 _ r l e1 fun v H1 m1 x1 r1 i1 => ?_
  split at h2
  · split at h2
    · rename_i j hj
      obtain ⟨rfl, rfl⟩ := ret_ok h2
      cases i1
      obtain ⟨h3, h4⟩ := inRng_ok hj
      exact ⟨_, rfl, h3, h4, q _ H1 m1 x1 r1 (jok_rng 0 _)⟩
    · exact (no_ok h2).elim
  · exact (no_ok h2).elim
theorem sim_rng2 (ok : Okx Γ st X) {tg x y : Expr} {a b : E} {p pos : Pos} (hg : glB st.sc ("range" : Str) = true) (hst : notStar x = true) (hst2 : notStar y = true) (h : SimE Γ X x a) (h' : SimE Γ X y b) : SimI Γ X tg (.Call (.Name ("range" : Str) p) [x, y] [] pos) (.rng2 a b) := by
  obtain ⟨t, pt, f⟩ := h
  obtain ⟨t', pt', f'⟩ := h'
  refine ⟨_, pi_range2 (gl_of ok hg) (ok.blt _ rng_mem) (pa_cons pt (pa_cons pt' pa_nil (starEach_cons hst2)) (starEach_cons hst)) (by rw [starEach_cons hst, starEach_cons hst2]; rfl) (starEach_cons hst2), fun σ ρ H m S w S' R r l h q => ?_⟩
  simp only [evIt] at h
  obtain ⟨d1, S1, e1, h2⟩ := bnd_ok h
  obtain ⟨d2, S2, e2, h3⟩ := bnd_ok h2
  refine f σ ρ H m S d1 S1 _ r l e1 fun v H1 m1 x1 r1 i1 => ?_
  refine f' σ ρ H1 m1 S1 d2 S2 _ r1 (l.ex x1) e2 fun v2 H2 m2 x2 r2 i2 => ?_
  split at h3
  · split at h3
    · rename_i i j hj
      rw [Bool.and_eq_true] at hj
      obtain ⟨rfl, rfl⟩ := ret_ok h3
      cases i1
      cases i2
      obtain ⟨h4, h5⟩ := inRng_ok hj.1
      obtain ⟨h6, h7⟩ := inRng_ok hj.2
      exact ⟨_, _, rfl, ⟨h4, h5, h6, h7⟩, q _ H2 m2 (x1.trans x2) r2 (jok_rng _ _)⟩
    · exact (no_ok h3).elim
  · exact (no_ok h3).elim
theorem zip_mem : Str.ofString "zip" ∈ blts := by decide +kernel
theorem enum_mem : Str.ofString "enumerate" ∈ blts := by decide +kernel
theorem sim_zip (ok : Okx Γ st X) {elts : List Expr} {kk : Nat} {tpos : Pos} {x y : Expr} {a b : E} {p pos : Pos} (hg : glB st.sc ("zip" : Str) = true) (hst : notStar x = true) (hst2 : notStar y = true) (h : SimE Γ X x a) (h' : SimE Γ X y b) :
    SimI Γ X (.Tuple elts kk tpos) (.Call (.Name ("zip" : Str) p) [x, y] [] pos) (.zip a b) := by
  obtain ⟨t, pt, f⟩ := h
  obtain ⟨t', pt', f'⟩ := h'
  refine ⟨_, RZ.pi_zipA (gl_of ok hg) (ok.blt _ zip_mem) (pa_cons pt (pa_cons pt' pa_nil (starEach_cons hst2)) (starEach_cons hst)) (starEach_cons hst) (by rw [starEach_cons hst2]; rfl), fun σ ρ H m S w S' R r l h q => ?_⟩
  simp only [evIt] at h
  obtain ⟨d1, S1, e1, h2⟩ := bnd_ok h
  obtain ⟨d2, S2, e2, h3⟩ := bnd_ok h2
  obtain ⟨e3, rfl⟩ := see_ok h3
  refine f σ ρ H m S d1 S1 _ r l e1 fun v H1 m1 x1 r1 i1 => ?_
  refine f' σ ρ H1 m1 S1 d2 _ _ r1 (l.ex x1) e2 fun v2 H2 m2 x2 r2 i2 => ?_
  unfold zipF at e3
  split at e3
  · rename_i xs ys
    cases e3
    have i1' := i1.ex x2
    cases i1' with
    | tup h1 h2 =>
      cases i2 with
      | tup h3 h4 => exact ⟨_, _, _, _, rfl, .inr ⟨h1, h3, q _ H2 m2 (x1.trans x2) r2 (jok_zipT h1 h2 h3 h4)⟩⟩
  · rename_i n1 n2
    split at e3
    · rename_i xs ys e4 e5
      cases e3
      obtain ⟨p1, vs, rfl, ⟨_, hm⟩, h1, h2⟩ := r2.rdL (i1.ex x2) e4
      obtain ⟨p2, ws, rfl, ⟨_, hm2⟩, h3, h4⟩ := r2.rdL i2 e5
      exact ⟨_, _, _, _, rfl, .inl ⟨h1, h3, q _ H2 m2 (x1.trans x2) r2 (jok_zipL hm hm2)⟩⟩
    · cases e3
  · cases e3
theorem sim_enum (ok : Okx Γ st X) {elts : List Expr} {kk : Nat} {tpos : Pos} {x : Expr} {a : E} {p pos : Pos} (hg : glB st.sc ("enumerate" : Str) = true) (hst : notStar x = true) (h : SimE Γ X x a) :
    SimI Γ X (.Tuple elts kk tpos) (.Call (.Name ("enumerate" : Str) p) [x] [] pos) (.enum a) := by
  obtain ⟨t, pt, f⟩ := h
  refine ⟨_, pi_enum (gl_of ok hg) (ok.blt _ enum_mem) (pa_cons pt pa_nil (starEach_cons hst)) (starEach_cons hst), fun σ ρ H m S w S' R r l h q => ?_⟩
  simp only [evIt] at h
  obtain ⟨d1, S1, e1, h2⟩ := bnd_ok h
  obtain ⟨e3, rfl⟩ := see_ok h2
  refine f σ ρ H m S d1 _ _ r l e1 fun v H1 m1 x1 r1 i1 => ?_
  cases d1 with
  | ref n =>
    simp only [enumF, Option.map_eq_some_iff] at e3
    obtain ⟨xs, e4, rfl⟩ := e3
    obtain ⟨p1, vs, rfl, ⟨_, hm⟩, h1, h2⟩ := r1.rdL i1 e4
    exact ⟨_, _, rfl, h1, q _ H1 m1 x1 r1 (jok_enum hm)⟩
  | _ => simp only [enumF] at e3; cases e3
/-! ### comprehensions -/
/-! a family of contexts -/
theorem SimE.fam {ι : Type} {F : ι → Cx} {K : PySem.W.Frag} (hK : ∀ i, (F i).K = K) {py : Expr} {e : E} (h : ∀ i, SimE Γ (F i) py e) :
    ∃ t : TE, (∀ i, PE (F i) py t) ∧ ∀ σ ρ H m S d S' Q, Rep K m S H → RepL K m H σ ρ → evE Γ e ρ S = .ok d S' → Post K m H S' d Q → t σ H Q :=
  ⟨fun σ H Q => ∀ i, Classical.choose (h i) σ H Q, fun i => ⟨fun pins s σ H Q I hw => (Classical.choose_spec (h i)).1.run pins s σ H Q I (hw i)⟩,
    fun σ ρ H m S d S' Q r l e p i => (Classical.choose_spec (h i)).2 σ ρ H m S d S' Q (by rw [hK]; exact r) (by rw [hK]; exact l) e (by rw [hK]; exact p)⟩
theorem SimC.fam {ι : Type} {F : ι → Cx} {K : PySem.W.Frag} (hK : ∀ i, (F i).K = K) {pys : List Expr} {es : Es} (h : ∀ i, SimC Γ (F i) pys es) :
    ∃ t : TT, (∀ i, PTs (F i) pys t) ∧ ∀ σ ρ H m S b S' (Q : Bool → Hp → Prop), Rep K m S H → RepL K m H σ ρ → evC Γ es ρ S = .ok b S' → (∀ H' m', Ex m m' H H' → Rep K m' S' H' → Q b H') → t σ H Q :=
  ⟨fun σ H Q => ∀ i, Classical.choose (h i) σ H Q, fun i => ⟨fun pins s σ H Q I hw => (Classical.choose_spec (h i)).1.run pins s σ H Q I (hw i)⟩,
    fun σ ρ H m S d S' Q r l e p i => (Classical.choose_spec (h i)).2 σ ρ H m S d S' Q (by rw [hK]; exact r) (by rw [hK]; exact l) e (by rw [hK]; exact p)⟩
theorem SimG.fam {ι : Type} {F : ι → Cx} {K : PySem.W.Frag} (hK : ∀ i, (F i).K = K) {py : Expr} {t : T} (h : ∀ i, SimG (F i) py t) :
    ∃ g : TG, (∀ i, PG (F i) py g) ∧ ∀ v d σ ρ ρ' H m (Q : L2.St → Hp → Prop), RepL K m H σ ρ → IsD K m H v d → asgT t d ρ = some ρ' → (∀ σ', RepL K m H σ' ρ' → Sm (tgI t) σ σ' → Q σ' H) → g v σ H Q :=
  ⟨fun v σ H Q => ∀ i, Classical.choose (h i) v σ H Q, fun i => ⟨fun pins s σ H v u Q I rv hw => (Classical.choose_spec (h i)).1.run pins s σ H v u Q I rv (hw i)⟩,
    fun v d σ ρ ρ' H m Q l hv e p i => (Classical.choose_spec (h i)).2 v d σ ρ ρ' H m Q (by rw [hK]; exact l) (by rw [hK]; exact hv) e (by rw [hK]; exact p)⟩
abbrev BI := Shared × Hp × Addr × List (Str × Addr) × List Addr
abbrev blkF (X : Cx) (scope : Scope) (i : BI) : Cx := X.blk i.1 i.2.1 scope (compEnvC scope i.2.2.2.1 i.2.2.1 X.env) i.2.2.2.2
theorem Ex.adopt {m1 m2 : Mp} {H1 H2 : Hp} {P : Addr} (x : Ex m1 m2 H1 H2) (hP : H1 P = none) : Ex m1 (m2 ++ [(P, true)]) H1 H2 := by
  obtain ⟨l, e⟩ := x.pre
  refine ⟨⟨l ++ [(P, true)], by rw [e]; simp⟩, fun a h => ?_, x.fr⟩
  rcases List.mem_append.mp h with h | h
  · exact x.new a h
  · have : a = P := congrArg Prod.fst (List.mem_singleton.mp h)
    rw [this]; exact .inr hP
theorem Ex.other {m1 m2 : Mp} {H1 H2 : Hp} {P : Addr} {o : HO} (x : Ex m1 m2 H1 H2) (hP : H1 P = none) : Ex m1 m2 H1 (upd H2 P o) :=
  ⟨x.pre, x.new, fun b u h z => by rw [upd_ne (ne_of_none h hP)]; exact x.fr b u h z⟩
theorem Ex.keepL {m1 m2 : Mp} {H1 H2 : Hp} {P : Addr} {vs : List V} (x : Ex m1 m2 H1 H2) (hP : H1 P = some (.lst vs)) (hn : (P, true) ∉ m1) : H2 P = some (.lst vs) ∧ (P, true) ∉ m2 :=
  ⟨x.fr P _ hP (.inl hn), fun h => (x.new P h).elim hn fun z => by rw [z] at hP; cases hP⟩
theorem IsDs.other {K : PySem.W.Frag} {m : Mp} {H : Hp} {P : Addr} {us ws vs : List V} {xs : List D} (h : IsDs K m H vs xs) (hP : H P = some (.lst us)) : IsDs K m (upd H P (.lst ws)) vs xs :=
  h.mn (fun _ _ h => h) (sqT_upd hP)
theorem IsD.other {K : PySem.W.Frag} {m : Mp} {H : Hp} {P : Addr} {us ws : List V} {v : V} {x : D} (h : IsD K m H v x) (hP : H P = some (.lst us)) : IsD K m (upd H P (.lst ws)) v x :=
  h.mn (fun _ _ h => h) (sqT_upd hP)
theorem RepL.other {K : PySem.W.Frag} {m : Mp} {H : Hp} {P : Addr} {us ws : List V} {σ : L2.St} {ρ : My.Env} (l : RepL K m H σ ρ) (hP : H P = some (.lst us)) : RepL K m (upd H P (.lst ws)) σ ρ :=
  ⟨l.len, fun i d e => let ⟨v, e1, e2⟩ := l.at_ i d e; ⟨v, e1, e2.other hP⟩⟩
/-- a comprehension's reading holds -/
theorem lc_read {K : PySem.W.Frag} {it : It} {tg : T} {cond : Es} {elt : E} {own : List (Str × Nat)} {wi : TI} {g : TG} {tt : TT} {te : TE} (hown : ∀ j ∈ tgI tg, j ∈ own.map (·.2))
    (hi : ∀ σ ρ H m S w S' (R : L2.It → Hp → Prop), Rep K m S H → RepL K m H σ ρ → evIt Γ it ρ S = .ok w S' → (∀ J H' m', Ex m m' H H' → Rep K m' S' H' → JOk K m' H' J w → R J H') → wi σ H R)
    (hg : ∀ v d σ ρ ρ' H m (Q : L2.St → Hp → Prop), RepL K m H σ ρ → IsD K m H v d → asgT tg d ρ = some ρ' → (∀ σ', RepL K m H σ' ρ' → Sm (tgI tg) σ σ' → Q σ' H) → g v σ H Q)
    (ht : ∀ σ ρ H m S b S' (Q : Bool → Hp → Prop), Rep K m S H → RepL K m H σ ρ → evC Γ cond ρ S = .ok b S' → (∀ H' m', Ex m m' H H' → Rep K m' S' H' → Q b H') → tt σ H Q)
    (he : ∀ σ ρ H m S d S' Q, Rep K m S H → RepL K m H σ ρ → evE Γ elt ρ S = .ok d S' → Post K m H S' d Q → te σ H Q) :
    ∀ σ ρ H m S d S' Q, Rep K m S H → RepL K m H σ ρ → evE Γ (.lc elt tg it cond own) ρ S = .ok d S' → Post K m H S' d Q → tLc wi g tt te (own.map (·.2)) σ H Q := by
  intro σ ρ H m S d S' Q r l h q
  simp only [evE] at h
  obtain ⟨w, S1, e1, h2⟩ := bnd_ok h
  refine hi σ ρ H m S w S1 _ r l e1 fun J H1 m1 x1 r1 j1 => ?_
  intro P hP
  generalize hf : (fun x => match asgT tg x (wipeD ρ (own.map (·.2))) with
      | some ρ1 => bnd (evC Γ cond ρ1) fun k => if k = true then bnd (evE Γ elt ρ1) fun y => ret (some y) else ret none
      | none => (no : M (Option D))) = f at h2
  refine ⟨fun i n H2 => n = w.n - i ∧ i ≤ w.n ∧ ∃ m2 S2 acc vs, Ex m1 m2 H1 H2 ∧ Rep K m2 S2 H2 ∧ H2 P = some (.lst vs) ∧ (P, true) ∉ m2 ∧ IsDs K m2 H2 vs acc ∧ compF w f (w.n - i) i acc S2 = .ok d S', ⟨w.n, by simp, Nat.zero_le _, m1, S1, [], [], ?_, r1.grow (grow_upd hP), upd_same, r1.fresh hP, .nil, by simpa using h2⟩, ?_⟩
  · exact .grow (grow_upd hP)
  · rintro i n H2 ⟨hn, hi, m2, S2, acc, vs, x2, r2, h2P, hu, is2, e2⟩
    cases hk : w.n - i with
    | zero =>
      rw [hk] at e2
      unfold compF at e2
      have ei : i = w.n := by omega
      subst ei
      left
      split at e2
      · rename_i hfin
        cases e2
        refine ⟨(j1 m2 H2 S2 x2 r2).2 hfin, ?_⟩
        refine q _ H2 (m2 ++ [(P, true)]) (x1.trans (x2.adopt hP)) (r2.adopt h2P hu is2) (.ref (f := true) ?_)
        rw [← r2.len]; simp
      · cases e2
    | succ k =>
      rw [hk] at e2
      right
      unfold compF at e2
      split at e2
      · rename_i x hx
        have hi2 : i < w.n := by omega
        obtain ⟨hgo, hyl⟩ := (j1 m2 H2 S2 x2 r2).1 i x hi2 hx
        have hk1 : w.n - (i + 1) = k := by omega
        refine ⟨hgo, fun H5 => ∃ m5 S5 acc5 vs5, Ex m1 m5 H1 H5 ∧ Rep K m5 S5 H5 ∧ H5 P = some (.lst vs5) ∧ (P, true) ∉ m5 ∧ IsDs K m5 H5 vs5 acc5 ∧ compF w f k (i + 1) acc5 S5 = .ok d S', fun H5 h5 => ?_, fun u H3 hy => ?_⟩
        · obtain ⟨m5, S5, acc5, vs5, g1, g2, g3, g4, g5, g6⟩ := h5
          exact ⟨w.n - (i + 1), by omega, rfl, hi2, m5, S5, acc5, vs5, g1, g2, g3, g4, g5, by rw [hk1]; exact g6⟩
        · obtain ⟨x3, r3, i3⟩ := hyl u H3 hy
          obtain ⟨h3P, hu3⟩ := x3.keepL h2P hu
          have is3 := is2.ex x3
          rw [← hf] at e2
          have l3 : RepL K m2 H3 (L2.wipe σ (own.map (·.2))) (wipeD ρ (own.map (·.2))) := RepL.wipe (((l.ex x1).ex x2).ex x3) _
          cases hga : asgT tg x (wipeD ρ (own.map (·.2))) with
          | none => simp only [hga] at e2; cases e2
          | some ρ1 =>
            simp only [hga] at e2
            refine hg u x _ _ ρ1 H3 m2 _ l3 i3 hga fun σ2 l4 sm => ⟨wipe_sm sm hown, ?_⟩
            -- the tests
            cases hc : evC Γ cond ρ1 S2 with
            | no => simp only [bnd, hc] at e2; cases e2
            | ex _ _ => simp only [bnd, hc] at e2; cases e2
            | ok b S4 =>
              simp only [bnd, hc] at e2
              refine ht σ2 ρ1 H3 m2 S2 b S4 _ r3 l4 hc fun H4 m4 x4 r4 => ?_
              obtain ⟨h4P, hu4⟩ := x4.keepL h3P hu3
              have is4 := is3.ex x4
              cases b with
              | false =>
                simp only [Bool.false_eq_true, if_false, ret] at e2 ⊢
                exact ⟨m4, S4, acc, vs, (x2.trans x3).trans x4, r4, h4P, hu4, is4, by rw [← hf]; simpa only [bnd] using e2⟩
              | true =>
                simp only [if_true, bnd] at e2 ⊢
                cases hee : evE Γ elt ρ1 S4 with
                | no => simp only [hee] at e2; cases e2
                | ex _ _ => simp only [hee] at e2; cases e2
                | ok y S5 =>
                  simp only [hee, ret] at e2
                  refine he σ2 ρ1 H4 m4 S4 y S5 _ r4 (l4.ex x4) hee fun yv H5 m5 x5 r5 i5 => ?_
                  obtain ⟨h5P, hu5⟩ := x5.keepL h4P hu4
                  have is5 := is4.ex x5
                  split at e2
                  · rename_i hz
                    refine ⟨vs, h5P, by rw [is5.length]; exact hz, m5, S5, acc ++ [y], vs ++ [yv], (((x2.trans x3).trans x4).trans x5).other hP, r5.other h5P hu5, upd_same, hu5, (is5.other h5P).append (.cons (i5.other h5P) .nil), by rw [← hf]; simpa only [bnd, ret] using e2⟩
                  · cases e2
      · cases e2
end
end My

/-! f-strings, tuple(range). -/
namespace My
open PySem L2
section
variable {Γ : Tx} {X : Cx} {st : Sta}
theorem sim_fmt {x : Expr} {a : E} {pos : Pos} (ha : SimE Γ X x a) : SimE Γ X (.FormattedValue x (-1) none pos) (.fmt a) := by
  obtain ⟨t, p, f⟩ := ha
  refine ⟨_, pe_fmt p, fun σ ρ H m S d S' Q r l h q => ?_⟩
  simp only [evE] at h
  obtain ⟨d1, S1, e1, h2⟩ := bnd_ok h
  refine f σ ρ H m S d1 S1 _ r l e1 fun v H1 m1 x1 r1 i1 => ?_
  cases d1 with
  | str y =>
    cases i1
    simp only [fmtF] at h2
    split at h2
    · rename_i hz
      obtain ⟨rfl, rfl⟩ := ret_ok h2
      exact .inl ⟨y, rfl, hz, q _ H1 m1 x1 r1 (.str y)⟩
    · exact (no_ok h2).elim
  | int i =>
    cases i1
    simp only [fmtF] at h2
    split at h2
    · rename_i hz
      obtain ⟨rfl, rfl⟩ := ret_ok h2
      exact .inr ⟨i, rfl, hz, q _ H1 m1 x1 r1 (.str _)⟩
    · exact (no_ok h2).elim
  | _ => cases h2
def SimJ (Γ : Tx) (X : Cx) (pys : List Expr) (es : Es) : Prop := ∃ ts : List TE, PJ X pys ts ∧ ∀ acc σ ρ H m S ds S' ys (Q : Str → Hp → Prop), Rep X.K m S H → RepL X.K m H σ ρ → evEs Γ es ρ S = .ok ds S' → strsOf ds = some ys → acc.length + sumL ys ≤ sizeLine →
  (∀ H' m', Ex m m' H H' → Rep X.K m' S' H' → Q (catS ys acc) H') → tJs ts acc σ H Q
theorem len_cat (x y : Str) : (x ++ y).length = x.length + y.length := by
  have e := TL.tl_append x y
  rw [TL.len_tl, e, List.length_append, ← TL.len_tl, ← TL.len_tl]
theorem simJ : ∀ {xs : List Expr} {es : Es}, SimAll Γ X xs es → SimJ Γ X xs es
  | _, _, .nil => ⟨[], .nil, fun acc σ ρ H m S ds S' ys Q r l h hs hz q => by
    simp only [evEs] at h
    obtain ⟨rfl, rfl⟩ := ret_ok h
    cases hs
    exact q H m .refl r⟩
  | _, _, .cons h1 _ hs => by
    obtain ⟨t, p, f⟩ := h1
    obtain ⟨ts, ps, fs⟩ := simJ hs
    refine ⟨t :: ts, .cons p ps, fun acc σ ρ H m S ds S' ys Q r l h hy hz q => ?_⟩
    simp only [evEs] at h
    obtain ⟨d, S1, e1, h⟩ := bnd_ok h
    obtain ⟨ds', S2, e2, h⟩ := bnd_ok h
    obtain ⟨rfl, rfl⟩ := ret_ok h
    cases d <;> first | (cases hy; done) | skip
    simp only [strsOf, Option.map_eq_some_iff] at hy
    obtain ⟨ys', hy, rfl⟩ := hy
    refine f σ ρ H m S _ S1 _ r l e1 fun v H1 m1 x1 r1 i1 => ?_
    cases i1
    simp only [sumL] at hz
    refine ⟨_, rfl, by rw [len_cat]; omega, ?_⟩
    exact fs (acc ++ _) σ ρ H1 m1 S1 ds' S' ys' Q r1 (l.ex x1) e2 hy (by rw [len_cat]; omega) fun H2 m2 x2 r2 => q H2 m2 (x1.trans x2) r2
theorem sim_fstr {xs : List Expr} {es : Es} {pos : Pos} (h2 : 2 ≤ xs.length) (h : SimAll Γ X xs es) : SimE Γ X (.JoinedStr xs pos) (.fstr es) := by
  obtain ⟨ts, p, f⟩ := simJ h
  rcases xs with _ | ⟨v1, _ | ⟨v2, rest⟩⟩
  · simp at h2
  · simp at h2
  · refine ⟨_, pe_joined p, fun σ ρ H m S d S' Q r l h q => ?_⟩
    simp only [evE] at h
    obtain ⟨ds, S1, e1, h2⟩ := bnd_ok h
    unfold fstrF at h2
    cases hs : strsOf ds with
    | none => rw [hs] at h2; exact (no_ok h2).elim
    | some ys =>
      rw [hs] at h2
      dsimp only at h2
      split at h2
      · rename_i hz
        obtain ⟨rfl, rfl⟩ := ret_ok h2
        refine f Str.empty σ ρ H m S ds _ ys _ r l e1 hs ?_ fun H1 m1 x1 r1 => q _ H1 m1 x1 r1 (.str _)
        have e0 : Str.empty.length = 0 := by decide +kernel
        omega
      · exact (no_ok h2).elim
theorem rg_is {K : PySem.W.Frag} {m : Mp} {H : Hp} (a b : Int) : IsDs K m H (rgV a b) (rgD a b) := by
  have : ∀ l : List Nat, IsDs K m H (l.map fun i => V.int (a + (i : Nat))) (l.map fun i => D.int (a + (i : Nat))) := by
    intro l
    induction l with
    | nil => exact .nil
    | cons x l ih => exact .cons (.int _) ih
  exact this _
theorem rgOk_of {a b : Int} (h : rgOkB a b = true) : RgOk a b := by
  unfold rgOkB at h
  rw [decide_eq_true_eq] at h
  exact h
theorem tup_mem : Str.ofString "tuple" ∈ blts := by decide +kernel
theorem sim_tupRg1 (ok : Okx Γ st X) {x : Expr} {a : E} {p p2 pos pos2 : Pos} (hg : glB st.sc ("tuple" : Str) = true) (hr : glB st.sc ("range" : Str) = true) (hst : notStar x = true) (ha : SimE Γ X x a) :
    SimE Γ X (.Call (.Name ("tuple" : Str) p) [.Call (.Name ("range" : Str) p2) [x] [] pos2] [] pos) (.tupRg1 a) := by
  obtain ⟨t, pt, f⟩ := ha
  refine ⟨_, pe_tupRg ok.calm (gl_of ok hg) (ok.blt _ tup_mem) (prg_1 (gl_of ok hr) (ok.blt _ rng_mem) pt (starEach_cons hst)), fun σ ρ H m S d S' Q r l h q => ?_⟩
  simp only [evE] at h
  obtain ⟨d1, S1, e1, h2⟩ := bnd_ok h
  cases d1 <;> first | (simp only [tupRgF] at h2; exact (no_ok h2).elim) | skip
  rename_i j
  simp only [tupRgF] at h2
  split at h2
  · rename_i hz
    obtain ⟨rfl, rfl⟩ := ret_ok h2
    refine f σ ρ H m S _ _ _ r l e1 fun v H1 m1 x1 r1 i1 => ?_
    cases i1
    exact ⟨j, rfl, rgOk_of hz, fun a ha => q _ _ m1 (x1.trans (.grow (grow_upd ha))) (r1.grow (grow_upd ha)) (.tup (.of upd_same) (rg_is 0 j))⟩
  · exact (no_ok h2).elim
theorem sim_tupRg2 (ok : Okx Γ st X) {x y : Expr} {a b : E} {p p2 pos pos2 : Pos} (hg : glB st.sc ("tuple" : Str) = true) (hr : glB st.sc ("range" : Str) = true) (hst : notStar x = true) (hst2 : notStar y = true) (ha : SimE Γ X x a) (hb : SimE Γ X y b) :
    SimE Γ X (.Call (.Name ("tuple" : Str) p) [.Call (.Name ("range" : Str) p2) [x, y] [] pos2] [] pos) (.tupRg2 a b) := by
  obtain ⟨t, pt, f⟩ := ha
  obtain ⟨t', pt', f'⟩ := hb
  refine ⟨_, pe_tupRg ok.calm (gl_of ok hg) (ok.blt _ tup_mem) (prg_2 (gl_of ok hr) (ok.blt _ rng_mem) pt pt' (starEach_cons hst) (starEach_cons hst2) (by rw [starEach_cons hst2]; rfl)), fun σ ρ H m S d S' Q r l h q => ?_⟩
  simp only [evE] at h
  obtain ⟨d1, S1, e1, h2⟩ := bnd_ok h
  obtain ⟨d2, S2, e2, h3⟩ := bnd_ok h2
  cases d1 <;> first | (simp only [tupRgF] at h3; exact (no_ok h3).elim) | skip
  cases d2 <;> first | (simp only [tupRgF] at h3; exact (no_ok h3).elim) | skip
  rename_i i j
  simp only [tupRgF] at h3
  split at h3
  · rename_i hz
    obtain ⟨rfl, rfl⟩ := ret_ok h3
    refine f σ ρ H m S _ _ _ r l e1 fun v H1 m1 x1 r1 i1 => ?_
    refine f' σ ρ H1 m1 S1 _ _ _ r1 (l.ex x1) e2 fun v2 H2 m2 x2 r2 i2 => ?_
    cases i1
    cases i2
    exact ⟨i, j, rfl, rfl, rgOk_of hz, fun a ha => q _ _ m2 ((x1.trans x2).trans (.grow (grow_upd ha))) (r2.grow (grow_upd ha)) (.tup (.of upd_same) (rg_is i j))⟩
  · exact (no_ok h3).elim
end
end My

/-! All expressions. -/
namespace My
open PySem L2
section
variable {Γ : Tx}
theorem sim_lc {X : Cx} {st : Sta} (ok : Okx Γ st X) {elt : E} {tg : T} {it : It} {cond : Es} {own : List (Str × Nat)} {e t i : Expr} {ifs : List Expr} {scope : Scope}
    (hb : blkC st.N st.sc scope own = true) (htg : (tgI tg).all (fun j => (own.map (·.2)).contains j) = true)
    (hi : SimI Γ X t i it) (hg : ∀ X', Okx Γ (blkS st scope) X' → SimG X' t tg) (hc : ∀ X', Okx Γ (blkS st scope) X' → SimC Γ X' ifs cond) (he : ∀ X', Okx Γ (blkS st scope) X' → SimE Γ X' e elt)
    (hs : ∀ x, foldedSetIterable i X.env x = pure x) :
    ∃ (wi : TI) (g : TG) (tt : TT) (te : TE), PI X t i wi ∧ BlkOk X.N X.env.scope scope own ∧
      (∀ (s : Shared) (H : Hp) (C : Addr) (cl : List (Str × Addr)) (fp : List Addr), PG (X.blk s H scope (compEnvC scope cl C X.env) fp) t g) ∧ (∀ (s : Shared) (H : Hp) (C : Addr) (cl : List (Str × Addr)) (fp : List Addr), PTs (X.blk s H scope (compEnvC scope cl C X.env) fp) ifs tt) ∧
      (∀ (s : Shared) (H : Hp) (C : Addr) (cl : List (Str × Addr)) (fp : List Addr), PE (X.blk s H scope (compEnvC scope cl C X.env) fp) e te) ∧
      ∀ σ ρ H m S d S' Q, Rep X.K m S H → RepL X.K m H σ ρ → evE Γ (.lc elt tg it cond own) ρ S = .ok d S' → Post X.K m H S' d Q → tLc wi g tt te (own.map (·.2)) σ H Q := by
  obtain ⟨wi, pi, fi⟩ := hi
  have okb : ∀ b : BI, Okx Γ (blkS st scope) (blkF X scope b) := fun b => ok.blk _ _ _ _ _ _
  obtain ⟨g, pg, fg⟩ := SimG.fam (F := blkF X scope) (K := X.K) (fun _ => rfl) fun b => hg _ (okb b)
  obtain ⟨tt, pt, ft⟩ := SimC.fam (F := blkF X scope) (K := X.K) (fun _ => rfl) fun b => hc _ (okb b)
  obtain ⟨te, pe, fe⟩ := SimE.fam (F := blkF X scope) (K := X.K) (fun _ => rfl) fun b => he _ (okb b)
  have bo : BlkOk X.N X.env.scope scope own := by
    rw [ok.N, ok.sc]
    exact blkOk_by hb
  refine ⟨wi, g, tt, te, pi, bo, fun s H C cl fp => pg (s, H, C, cl, fp), fun s H C cl fp => pt (s, H, C, cl, fp), fun s H C cl fp => pe (s, H, C, cl, fp), ?_⟩
  refine lc_read (fun j hj => ?_) fi fg ft fe
  have := List.all_eq_true.mp htg j hj
  simpa using this
theorem folded_of {y : Expr} {env : PySem.Env} (h : notSet y = true) : ∀ x, foldedSetIterable y env x = pure x := by
  intro x
  cases y <;> first | rfl | cases h
theorem folded_it {it : It} {st : Sta} {i t : Expr} {env : PySem.Env} (h : chkIt it st i t = true) : ∀ x, foldedSetIterable i env x = pure x := by
  cases it with
  | val e =>
    simp only [chkIt, Bool.and_eq_true] at h
    exact folded_of h.1
  | _ =>
    intro x
    cases i <;> first | rfl | (simp only [chkIt] at h; cases h)
theorem ns_of : ∀ {e : E} {st : Sta} {x : Expr}, chkE e st x = true → notStar x = true := by
  intro e st x h
  cases x <;> first | rfl | (cases e <;> first | (cases h; done) | (simp only [chkE] at h; cases h; done))
def plainU : E → Bool
  | .cmp _ _ _ => false
  | .chain _ _ _ _ _ => false
  | _ => true
theorem true_plain {e : E} {st : Sta} {X : Cx} {x : Expr} (hp : plainT e = true) (hu : plainU e = true) (h : chkE e st x = true) : ∀ whole, PySem.isTrue x X.env whole = (do let v ← whole; standAt x.pos; holding [v] (truthy v)) := by
  intro whole
  cases x <;> first | rfl | skip
  all_goals first | (cases e <;> first | (cases hp; done) | (cases hu; done) | (cases h; done) | (simp only [chkE] at h; cases h; done)) | skip
  all_goals rename_i o _ _
  all_goals cases o <;> first | rfl | (cases e <;> first | (cases hp; done) | (cases hu; done) | (cases h; done) | (simp only [chkE] at h; cases h; done))
theorem pts_no {xs : List Expr} {X : Cx} : PTs X xs (fun _ _ _ => False) := ⟨fun _ _ _ _ _ _ h => h.elim⟩
mutual
theorem simE : ∀ (e : E) {st : Sta} {X : Cx} (_ : Okx Γ st X) (x : Expr), chkE e st x = true → SimE Γ X x e
  | .lit d, st, X, ok, x, h => by
    cases x <;> first | (cases h; done) | (simp only [chkE] at h; cases h; done) | skip
    simp only [chkE] at h
    exact sim_lit h
  | .var i, st, X, ok, x, h => by
    cases x <;> first | (cases h; done) | (simp only [chkE] at h; cases h; done) | skip
    exact sim_var ok h
  | .gl y, st, X, ok, x, h => by
    cases x <;> first | (cases h; done) | (simp only [chkE] at h; cases h; done) | skip
    simp only [chkE, Bool.and_eq_true, decide_eq_true_eq, Bool.not_eq_true'] at h
    obtain ⟨⟨rfl, h1⟩, h2⟩ := h
    exact sim_gl ok h1 h2
  | .tup es, st, X, ok, x, h => by
    cases x <;> first | (cases h; done) | (simp only [chkE] at h; cases h; done) | skip
    simp only [chkE] at h
    exact sim_tup (simEs es ok _ h)
  | .lst es, st, X, ok, x, h => by
    cases x <;> first | (cases h; done) | (simp only [chkE] at h; cases h; done) | skip
    simp only [chkE] at h
    exact sim_lst (simEs es ok _ h)
  | .bin op a b, st, X, ok, x, h => by
    cases x <;> first | (cases h; done) | (simp only [chkE] at h; cases h; done) | skip
    simp only [chkE, Bool.and_eq_true, decide_eq_true_eq] at h
    obtain ⟨⟨rfl, h1⟩, h2⟩ := h
    exact sim_bin (simE a ok _ h1) (simE b ok _ h2)
  | .neg a, st, X, ok, x, h => by
    cases x <;> first | (cases h; done) | (simp only [chkE] at h; cases h; done) | skip
    rename_i op y pos
    cases op <;> first | (cases h; done) | (simp only [chkE] at h; cases h; done) | skip
    simp only [chkE] at h
    exact sim_neg (simE a ok _ h)
  | .cmp op a b, st, X, ok, x, h => by
    cases x <;> first | (cases h; done) | (simp only [chkE] at h; cases h; done) | skip
    rename_i y os zs pos
    rcases os with _ | ⟨o, _ | ⟨o2, os⟩⟩ <;> first | (cases h; done) | (simp only [chkE] at h; cases h; done) | skip
    rcases zs with _ | ⟨z, _ | ⟨z2, zs⟩⟩ <;> first | (cases h; done) | (simp only [chkE] at h; cases h; done) | skip
    simp only [chkE, Bool.and_eq_true, decide_eq_true_eq] at h
    obtain ⟨⟨⟨rfl, h0⟩, h1⟩, h2⟩ := h
    exact sim_cmp ok h0 (simE a ok _ h1) (simE b ok _ h2)
  | .chain op op' a b c, st, X, ok, x, h => by
    cases x <;> first | (cases h; done) | (simp only [chkE] at h; cases h; done) | skip
    rename_i y os zs pos
    rcases os with _ | ⟨o, _ | ⟨o2, _ | ⟨o3, os⟩⟩⟩ <;> first | (cases h; done) | (simp only [chkE] at h; cases h; done) | skip
    rcases zs with _ | ⟨z, _ | ⟨z2, _ | ⟨z3, zs⟩⟩⟩ <;> first | (cases h; done) | (simp only [chkE] at h; cases h; done) | skip
    simp only [chkE, Bool.and_eq_true, decide_eq_true_eq] at h
    obtain ⟨⟨⟨⟨⟨⟨rfl, rfl⟩, h0⟩, h00⟩, h1⟩, h2⟩, h3⟩ := h
    exact sim_chain ok h00 (simE a ok _ h1) (simE b ok _ h2) (simE c ok _ h3)
  | .and_ es, st, X, ok, x, h => by
    cases x <;> first | (cases h; done) | (simp only [chkE] at h; cases h; done) | skip
    rename_i o xs pos
    cases o <;> first | (cases h; done) | (simp only [chkE] at h; cases h; done) | skip
    simp only [chkE, Bool.and_eq_true] at h
    exact sim_and (simAll es ok _ h.2)
  | .or_ es, st, X, ok, x, h => by
    cases x <;> first | (cases h; done) | (simp only [chkE] at h; cases h; done) | skip
    rename_i o xs pos
    cases o <;> first | (cases h; done) | (simp only [chkE] at h; cases h; done) | skip
    simp only [chkE, Bool.and_eq_true] at h
    exact sim_or (simAll es ok _ h.2)
  | .not_ a, st, X, ok, x, h => by
    cases x <;> first | (cases h; done) | (simp only [chkE] at h; cases h; done) | skip
    rename_i o y pos
    cases o <;> first | (cases h; done) | (simp only [chkE] at h; cases h; done) | skip
    simp only [chkE] at h
    exact sim_not (simE a ok _ h)
  | .ifx c a b, st, X, ok, x, h => by
    cases x <;> first | (cases h; done) | (simp only [chkE] at h; cases h; done) | skip
    simp only [chkE, Bool.and_eq_true] at h
    exact sim_ifx (simT c ok _ h.1.1) (simE a ok _ h.1.2) (simE b ok _ h.2)
  | .idx a i, st, X, ok, x, h => by
    cases x <;> first | (cases h; done) | (simp only [chkE] at h; cases h; done) | skip
    simp only [chkE, Bool.and_eq_true] at h
    exact sim_idx h.1.1 (simE a ok _ h.1.2) (simE i ok _ h.2)
  | .slc a lo hi, st, X, ok, x, h => by
    cases x <;> first | (cases h; done) | (simp only [chkE] at h; cases h; done) | skip
    rename_i y z pos
    cases z <;> first | (cases h; done) | (simp only [chkE] at h; cases h; done) | skip
    rename_i l u p q
    cases p <;> first | (cases h; done) | (simp only [chkE] at h; cases h; done) | skip
    simp only [chkE, Bool.and_eq_true] at h
    exact sim_slc (simE a ok _ h.1.1) (simO lo ok _ h.1.2) (simO hi ok _ h.2)
  | .call f es, st, X, ok, x, h => by
    cases x <;> first | (cases h; done) | (simp only [chkE] at h; cases h; done) | skip
    rename_i g xs ks pos
    cases g <;> first | (cases h; done) | (simp only [chkE] at h; cases h; done) | skip
    cases ks <;> first | (cases h; done) | (simp only [chkE] at h; cases h; done) | skip
    simp only [chkE, Bool.and_eq_true, decide_eq_true_eq, Bool.not_eq_true'] at h
    obtain ⟨⟨⟨rfl, h1⟩, h2⟩, h3⟩ := h
    exact sim_call ok h1 h2 h3 (simEs es ok _ h3)
  | .blt b es, st, X, ok, x, h => by
    cases x <;> first | (cases h; done) | (simp only [chkE] at h; cases h; done) | skip
    rename_i g xs ks pos
    cases g <;> first | (cases h; done) | (simp only [chkE] at h; cases h; done) | skip
    cases ks <;> first | (cases h; done) | (simp only [chkE] at h; cases h; done) | skip
    simp only [chkE, Bool.and_eq_true, decide_eq_true_eq] at h
    obtain ⟨⟨rfl, h1⟩, h3⟩ := h
    exact sim_blt ok h1 h3 (simEs es ok _ h3)
  | .isi a t, st, X, ok, x, h => by
    cases x <;> first | (cases h; done) | (simp only [chkE] at h; cases h; done) | skip
    rename_i g xs ks pos
    cases g <;> first | (cases h; done) | (simp only [chkE] at h; cases h; done) | skip
    rcases xs with _ | ⟨x1, _ | ⟨x2, _ | ⟨x3, xs⟩⟩⟩ <;> first | (cases h; done) | (simp only [chkE] at h; cases h; done) | skip
    cases x2 <;> first | (cases h; done) | (simp only [chkE] at h; cases h; done) | skip
    cases ks <;> first | (cases h; done) | (simp only [chkE] at h; cases h; done) | skip
    simp only [chkE, Bool.and_eq_true, decide_eq_true_eq] at h
    obtain ⟨⟨⟨⟨rfl, h1⟩, rfl⟩, h2⟩, h3⟩ := h
    exact sim_isi ok h1 h2 (ns_of h3) (simE a ok _ h3)
  | .isis a ts, st, X, ok, x, h => by
    cases x <;> first | (cases h; done) | (simp only [chkE] at h; cases h; done) | skip
    rename_i g xs ks pos
    cases g <;> first | (cases h; done) | (simp only [chkE] at h; cases h; done) | skip
    rcases xs with _ | ⟨x1, _ | ⟨x2, _ | ⟨x3, xs⟩⟩⟩ <;> first | (cases h; done) | (simp only [chkE] at h; cases h; done) | skip
    cases x2 <;> first | (cases h; done) | (simp only [chkE] at h; cases h; done) | skip
    cases ks <;> first | (cases h; done) | (simp only [chkE] at h; cases h; done) | skip
    simp only [chkE, Bool.and_eq_true, decide_eq_true_eq] at h
    obtain ⟨⟨⟨rfl, h1⟩, h2⟩, h3⟩ := h
    exact sim_isis ok h1 h2 (ns_of h3) (simE a ok _ h3)
  | .mth o mt es, st, X, ok, x, h => by
    cases x <;> first | (cases h; done) | (simp only [chkE] at h; cases h; done) | skip
    rename_i g xs ks pos
    cases g <;> first | (cases h; done) | (simp only [chkE] at h; cases h; done) | skip
    cases ks <;> first | (cases h; done) | (simp only [chkE] at h; cases h; done) | skip
    simp only [chkE, Bool.and_eq_true, decide_eq_true_eq] at h
    obtain ⟨⟨⟨⟨⟨rfl, h1⟩, h2⟩, h3⟩, h4⟩, h5⟩ := h
    exact sim_mth h1 h2 h3 h5 (simE o ok _ h4) (simEs es ok _ h5)
  | .lc elt tg it cond own, st, X, ok, x, h => by
    cases x <;> first | (cases h; done) | (simp only [chkE] at h; cases h; done) | skip
    rename_i e gs scope pos
    rcases gs with _ | ⟨⟨t, i, ifs, a⟩, _ | ⟨_, _⟩⟩ <;> first | (cases h; done) | (simp only [chkE] at h; cases h; done) | skip
    simp only [chkE, Bool.and_eq_true, decide_eq_true_eq] at h
    obtain ⟨⟨⟨⟨⟨⟨⟨rfl, h1⟩, h2⟩, h3⟩, h4⟩, h5⟩, h6⟩, h7⟩ := h
    obtain ⟨wi, g, tt, te, p1, p2, p3, p4, p5, f⟩ := sim_lc ok h1 h4 (simIt it ok i t h2) (fun X' ok' => simG ok' tg t h3) (fun X' ok' => simC cond ok' ifs h5) (fun X' ok' => simE elt ok' e h7) (folded_it (env := X.env) h2)
    exact ⟨_, pe_lc ok.calm ok.nd p1 p2 p3 p4 p5 (folded_it h2), f⟩
  | .fmt a, st, X, ok, x, h => by
    cases x <;> first | (cases h; done) | (simp only [chkE] at h; cases h; done) | skip
    rename_i y c o pos
    cases o <;> first | (cases h; done) | (simp only [chkE] at h; cases h; done) | skip
    simp only [chkE, Bool.and_eq_true, decide_eq_true_eq] at h
    obtain ⟨rfl, h1⟩ := h
    exact sim_fmt (simE a ok _ h1)
  | .fstr es, st, X, ok, x, h => by
    cases x <;> first | (cases h; done) | (simp only [chkE] at h; cases h; done) | skip
    simp only [chkE, Bool.and_eq_true, decide_eq_true_eq] at h
    exact sim_fstr h.1 (simAll es ok _ h.2)
  | .tupRg1 a, st, X, ok, x, h => by
    cases x <;> first | (cases h; done) | (simp only [chkE] at h; cases h; done) | skip
    rename_i g xs ks pos
    cases g <;> first | (cases h; done) | (simp only [chkE] at h; cases h; done) | skip
    rcases xs with _ | ⟨x1, _ | ⟨x2, xs⟩⟩ <;> first | (cases h; done) | (simp only [chkE] at h; cases h; done) | skip
    cases x1 <;> first | (cases h; done) | (simp only [chkE] at h; cases h; done) | skip
    rename_i g2 ys ks2 pos2
    cases g2 <;> first | (cases h; done) | (simp only [chkE] at h; cases h; done) | skip
    rcases ys with _ | ⟨y1, _ | ⟨y2, ys⟩⟩ <;> first | (cases h; done) | (simp only [chkE] at h; cases h; done) | skip
    cases ks2 <;> first | (cases h; done) | (simp only [chkE] at h; cases h; done) | skip
    cases ks <;> first | (cases h; done) | (simp only [chkE] at h; cases h; done) | skip
    simp only [chkE, Bool.and_eq_true, decide_eq_true_eq] at h
    obtain ⟨⟨⟨⟨⟨rfl, h1⟩, rfl⟩, h2⟩, h3⟩, h4⟩ := h
    exact sim_tupRg1 ok h1 h2 h3 (simE a ok _ h4)
  | .tupRg2 a b, st, X, ok, x, h => by
    cases x <;> first | (cases h; done) | (simp only [chkE] at h; cases h; done) | skip
    rename_i g xs ks pos
    cases g <;> first | (cases h; done) | (simp only [chkE] at h; cases h; done) | skip
    rcases xs with _ | ⟨x1, _ | ⟨x2, xs⟩⟩ <;> first | (cases h; done) | (simp only [chkE] at h; cases h; done) | skip
    cases x1 <;> first | (cases h; done) | (simp only [chkE] at h; cases h; done) | skip
    rename_i g2 ys ks2 pos2
    cases g2 <;> first | (cases h; done) | (simp only [chkE] at h; cases h; done) | skip
    rcases ys with _ | ⟨y1, _ | ⟨y2, _ | ⟨y3, ys⟩⟩⟩ <;> first | (cases h; done) | (simp only [chkE] at h; cases h; done) | skip
    cases ks2 <;> first | (cases h; done) | (simp only [chkE] at h; cases h; done) | skip
    cases ks <;> first | (cases h; done) | (simp only [chkE] at h; cases h; done) | skip
    simp only [chkE, Bool.and_eq_true, decide_eq_true_eq] at h
    obtain ⟨⟨⟨⟨⟨⟨⟨rfl, h1⟩, rfl⟩, h2⟩, h3⟩, h4⟩, h5⟩, h6⟩ := h
    exact sim_tupRg2 ok h1 h2 h3 h4 (simE a ok _ h5) (simE b ok _ h6)
theorem simT : ∀ (e : E) {st : Sta} {X : Cx} (_ : Okx Γ st X) (x : Expr), chkE e st x = true → SimT Γ X x e
  | .cmp op a b, st, X, ok, x, h => by
    cases x <;> first | (cases h; done) | (simp only [chkE] at h; cases h; done) | skip
    rename_i y os zs pos
    rcases os with _ | ⟨o, _ | ⟨o2, os⟩⟩ <;> first | (cases h; done) | (simp only [chkE] at h; cases h; done) | skip
    rcases zs with _ | ⟨z, _ | ⟨z2, zs⟩⟩ <;> first | (cases h; done) | (simp only [chkE] at h; cases h; done) | skip
    simp only [chkE, Bool.and_eq_true, decide_eq_true_eq] at h
    obtain ⟨⟨⟨rfl, h0⟩, h1⟩, h2⟩ := h
    exact simT_cmp ok h0 (simE a ok _ h1) (simE b ok _ h2)
  | .chain op op' a b c, st, X, ok, x, h => by
    cases x <;> first | (cases h; done) | (simp only [chkE] at h; cases h; done) | skip
    rename_i y os zs pos
    rcases os with _ | ⟨o, _ | ⟨o2, _ | ⟨o3, os⟩⟩⟩ <;> first | (cases h; done) | (simp only [chkE] at h; cases h; done) | skip
    rcases zs with _ | ⟨z, _ | ⟨z2, _ | ⟨z3, zs⟩⟩⟩ <;> first | (cases h; done) | (simp only [chkE] at h; cases h; done) | skip
    simp only [chkE, Bool.and_eq_true, decide_eq_true_eq] at h
    obtain ⟨⟨⟨⟨⟨⟨rfl, rfl⟩, h0⟩, h00⟩, h1⟩, h2⟩, h3⟩ := h
    exact simT_chain ok h00 (simE a ok _ h1) (simE b ok _ h2) (simE c ok _ h3)
  | .and_ es, st, X, ok, x, h => by
    cases x <;> first | (cases h; done) | (simp only [chkE] at h; cases h; done) | skip
    rename_i o xs pos
    cases o <;> first | (cases h; done) | (simp only [chkE] at h; cases h; done) | skip
    simp only [chkE, Bool.and_eq_true, Bool.not_eq_true'] at h
    exact simT_and (simAll es ok _ h.2) (fun z => by rw [z] at h; cases h.1)
  | .or_ es, st, X, ok, x, h => by
    cases x <;> first | (cases h; done) | (simp only [chkE] at h; cases h; done) | skip
    rename_i o xs pos
    cases o <;> first | (cases h; done) | (simp only [chkE] at h; cases h; done) | skip
    simp only [chkE, Bool.and_eq_true, Bool.not_eq_true'] at h
    exact simT_or (simAll es ok _ h.2) (fun z => by rw [z] at h; cases h.1)
  | .not_ a, st, X, ok, x, h => by
    cases x <;> first | (cases h; done) | (simp only [chkE] at h; cases h; done) | skip
    rename_i o y pos
    cases o <;> first | (cases h; done) | (simp only [chkE] at h; cases h; done) | skip
    simp only [chkE] at h
    exact simT_not (simT a ok _ h)
  | .ifx c a b, st, X, ok, x, h => by
    cases x <;> first | (cases h; done) | (simp only [chkE] at h; cases h; done) | skip
    simp only [chkE, Bool.and_eq_true] at h
    exact simT_ifx (simT c ok _ h.1.1) (simT a ok _ h.1.2) (simT b ok _ h.2)
  | .lit d, st, X, ok, x, h => simT_plain rfl (simE (.lit d) ok x h) (true_plain rfl rfl h)
  | .var i, st, X, ok, x, h => simT_plain rfl (simE (.var i) ok x h) (true_plain rfl rfl h)
  | .gl y, st, X, ok, x, h => simT_plain rfl (simE (.gl y) ok x h) (true_plain rfl rfl h)
  | .tup es, st, X, ok, x, h => simT_plain rfl (simE (.tup es) ok x h) (true_plain rfl rfl h)
  | .lst es, st, X, ok, x, h => simT_plain rfl (simE (.lst es) ok x h) (true_plain rfl rfl h)
  | .bin op a b, st, X, ok, x, h => simT_plain rfl (simE (.bin op a b) ok x h) (true_plain rfl rfl h)
  | .neg a, st, X, ok, x, h => simT_plain rfl (simE (.neg a) ok x h) (true_plain rfl rfl h)
  | .idx a i, st, X, ok, x, h => simT_plain rfl (simE (.idx a i) ok x h) (true_plain rfl rfl h)
  | .slc a lo hi, st, X, ok, x, h => simT_plain rfl (simE (.slc a lo hi) ok x h) (true_plain rfl rfl h)
  | .call f es, st, X, ok, x, h => simT_plain rfl (simE (.call f es) ok x h) (true_plain rfl rfl h)
  | .blt b es, st, X, ok, x, h => simT_plain rfl (simE (.blt b es) ok x h) (true_plain rfl rfl h)
  | .isi a t, st, X, ok, x, h => simT_plain rfl (simE (.isi a t) ok x h) (true_plain rfl rfl h)
  | .isis a ts, st, X, ok, x, h => simT_plain rfl (simE (.isis a ts) ok x h) (true_plain rfl rfl h)
  | .mth o mt es, st, X, ok, x, h => simT_plain rfl (simE (.mth o mt es) ok x h) (true_plain rfl rfl h)
  | .lc elt tg it cond own, st, X, ok, x, h => simT_plain rfl (simE (.lc elt tg it cond own) ok x h) (true_plain rfl rfl h)
  | .fmt a, st, X, ok, x, h => simT_plain rfl (simE (.fmt a) ok x h) (true_plain rfl rfl h)
  | .fstr es, st, X, ok, x, h => simT_plain rfl (simE (.fstr es) ok x h) (true_plain rfl rfl h)
  | .tupRg1 a, st, X, ok, x, h => simT_plain rfl (simE (.tupRg1 a) ok x h) (true_plain rfl rfl h)
  | .tupRg2 a b, st, X, ok, x, h => simT_plain rfl (simE (.tupRg2 a b) ok x h) (true_plain rfl rfl h)
theorem simAll : ∀ (es : Es) {st : Sta} {X : Cx} (_ : Okx Γ st X) (xs : List Expr), chkEs es st xs = true → SimAll Γ X xs es
  | .nil, st, X, ok, xs, h => by
    cases xs with
    | nil => exact .nil
    | cons _ _ => simp only [chkEs] at h; cases h
  | .cons e es, st, X, ok, xs, h => by
    cases xs with
    | nil => simp only [chkEs] at h; cases h
    | cons x xs =>
      simp only [chkEs, Bool.and_eq_true] at h
      exact .cons (simE e ok _ h.1.2) (simT e ok _ h.1.2) (simAll es ok _ h.2)
theorem simEs : ∀ (es : Es) {st : Sta} {X : Cx} (_ : Okx Γ st X) (xs : List Expr), chkEs es st xs = true → SimA Γ X xs es
  | .nil, st, X, ok, xs, h => by
    cases xs with
    | nil => exact sim_nil
    | cons _ _ => simp only [chkEs] at h; cases h
  | .cons e es, st, X, ok, xs, h => by
    cases xs with
    | nil => simp only [chkEs] at h; cases h
    | cons x xs =>
      simp only [chkEs, Bool.and_eq_true] at h
      exact sim_cons h.1.1 (simE e ok _ h.1.2) (simEs es ok _ h.2)
theorem simO : ∀ (es : Es) {st : Sta} {X : Cx} (_ : Okx Γ st X) (o : Option Expr), chkO es st o = true → SimP Γ X o es
  | .nil, st, X, ok, o, h => by
    cases o with
    | none => exact sim_p0
    | some _ => simp only [chkO] at h; cases h
  | .cons e es, st, X, ok, o, h => by
    cases es with
    | nil =>
      cases o with
      | none => simp only [chkO] at h; cases h
      | some x =>
        simp only [chkO] at h
        exact sim_p1 (simE e ok _ h)
    | cons _ _ => cases o <;> (simp only [chkO] at h; cases h)
theorem simC : ∀ (es : Es) {st : Sta} {X : Cx} (_ : Okx Γ st X) (xs : List Expr), chkEs es st xs = true → SimC Γ X xs es
  | .nil, st, X, ok, xs, h => by
    cases xs with
    | nil =>
      refine ⟨_, pts_nil, fun σ ρ H m S b S' Q r l h q => ?_⟩
      simp only [evC] at h
      obtain ⟨rfl, rfl⟩ := ret_ok h
      exact q H m .refl r
    | cons _ _ => simp only [chkEs] at h; cases h
  | .cons e es, st, X, ok, xs, h => by
    cases xs with
    | nil => simp only [chkEs] at h; cases h
    | cons x xs =>
      simp only [chkEs, Bool.and_eq_true] at h
      cases es with
      | nil =>
        cases xs with
        | nil =>
          obtain ⟨t, p, f⟩ := simT e ok _ h.1.2
          exact ⟨_, pts_one p, fun σ ρ H m S b S' Q r l h q => by
            simp only [evC] at h
            exact f σ ρ H m S b S' Q r l h q⟩
        | cons _ _ => have := h.2; simp only [chkEs] at this; cases this
      | cons e2 es2 =>
        exact ⟨_, pts_no, fun σ ρ H m S b S' Q r l h q => by simp only [evC] at h; exact (no_ok h).elim⟩
theorem simIt : ∀ (it : It) {st : Sta} {X : Cx} (_ : Okx Γ st X) (i t : Expr), chkIt it st i t = true → SimI Γ X t i it
  | .val e, st, X, ok, i, t, h => by
    simp only [chkIt, Bool.and_eq_true] at h
    exact sim_itval (simE e ok _ h.2)
  | .rng1 a, st, X, ok, i, t, h => by
    cases i <;> first | (cases h; done) | (simp only [chkIt] at h; cases h; done) | skip
    rename_i g xs ks pos
    cases g <;> first | (cases h; done) | (simp only [chkIt] at h; cases h; done) | skip
    rcases xs with _ | ⟨x1, _ | ⟨x2, xs⟩⟩ <;> first | (cases h; done) | (simp only [chkIt] at h; cases h; done) | skip
    cases ks <;> first | (cases h; done) | (simp only [chkIt] at h; cases h; done) | skip
    simp only [chkIt, Bool.and_eq_true, decide_eq_true_eq] at h
    obtain ⟨⟨⟨rfl, h1⟩, h2⟩, h3⟩ := h
    exact sim_rng1 ok h1 h2 (simE a ok _ h3)
  | .rng2 a b, st, X, ok, i, t, h => by
    cases i <;> first | (cases h; done) | (simp only [chkIt] at h; cases h; done) | skip
    rename_i g xs ks pos
    cases g <;> first | (cases h; done) | (simp only [chkIt] at h; cases h; done) | skip
    rcases xs with _ | ⟨x1, _ | ⟨x2, _ | ⟨x3, xs⟩⟩⟩ <;> first | (cases h; done) | (simp only [chkIt] at h; cases h; done) | skip
    cases ks <;> first | (cases h; done) | (simp only [chkIt] at h; cases h; done) | skip
    simp only [chkIt, Bool.and_eq_true, decide_eq_true_eq] at h
    obtain ⟨⟨⟨⟨⟨rfl, h1⟩, h2⟩, h3⟩, h4⟩, h5⟩ := h
    exact sim_rng2 ok h1 h2 h3 (simE a ok _ h4) (simE b ok _ h5)
  | .zip a b, st, X, ok, i, t, h => by
    cases i <;> first | (cases h; done) | (simp only [chkIt] at h; cases h; done) | skip
    rename_i g xs ks pos
    cases g <;> first | (cases h; done) | (simp only [chkIt] at h; cases h; done) | skip
    rcases xs with _ | ⟨x1, _ | ⟨x2, _ | ⟨x3, xs⟩⟩⟩ <;> first | (cases h; done) | (simp only [chkIt] at h; cases h; done) | skip
    cases ks <;> first | (cases h; done) | (simp only [chkIt] at h; cases h; done) | skip
    simp only [chkIt, Bool.and_eq_true, decide_eq_true_eq] at h
    obtain ⟨⟨⟨⟨⟨⟨h0, rfl⟩, h1⟩, h2⟩, h3⟩, h4⟩, h5⟩ := h
    cases t <;> first | (cases h0; done) | skip
    exact sim_zip ok h1 h2 h3 (simE a ok _ h4) (simE b ok _ h5)
  | .enum a, st, X, ok, i, t, h => by
    cases i <;> first | (cases h; done) | (simp only [chkIt] at h; cases h; done) | skip
    rename_i g xs ks pos
    cases g <;> first | (cases h; done) | (simp only [chkIt] at h; cases h; done) | skip
    rcases xs with _ | ⟨x1, _ | ⟨x2, xs⟩⟩ <;> first | (cases h; done) | (simp only [chkIt] at h; cases h; done) | skip
    cases ks <;> first | (cases h; done) | (simp only [chkIt] at h; cases h; done) | skip
    simp only [chkIt, Bool.and_eq_true, decide_eq_true_eq] at h
    obtain ⟨⟨⟨⟨h0, rfl⟩, h1⟩, h2⟩, h3⟩ := h
    cases t <;> first | (cases h0; done) | skip
    exact sim_enum ok h1 h2 (simE a ok _ h3)
end
end
end My

/-! Statements. -/
namespace My
open PySem L2
def EndsOk (K : PySem.W.Frag) (m : Mp) (H : Hp) (S' : Store) (fl : Fl) (ρ' : My.Env) (D : Ends) : Prop := match fl with
  | .nx => ∀ σ' H' m', Ex m m' H H' → Rep K m' S' H' → RepL K m' H' σ' ρ' → D.nx σ' H'
  | .bk => ∀ σ' H' m', Ex m m' H H' → Rep K m' S' H' → RepL K m' H' σ' ρ' → D.bk σ' H'
  | .ct => ∀ σ' H' m', Ex m m' H H' → Rep K m' S' H' → RepL K m' H' σ' ρ' → D.ct σ' H'
  | .rt d => Post K m H S' d D.rt
theorem EndsOk.ex {K : PySem.W.Frag} {m m1 : Mp} {H H1 : Hp} {S' : Store} {fl : Fl} {ρ' : My.Env} {D : Ends} (x : Ex m m1 H H1) (q : EndsOk K m H S' fl ρ' D) : EndsOk K m1 H1 S' fl ρ' D := by
  cases fl with
  | nx => exact fun σ' H' m' x2 r l => q σ' H' m' (x.trans x2) r l
  | bk => exact fun σ' H' m' x2 r l => q σ' H' m' (x.trans x2) r l
  | ct => exact fun σ' H' m' x2 r l => q σ' H' m' (x.trans x2) r l
  | rt d => exact fun v H' m' x2 r l => q v H' m' (x.trans x2) r l
section
variable (Γ : Tx) (X : Cx)
def SimS (py : Stmt) (s : My.S) : Prop := ∃ t : TS, PS X py t ∧ ∀ σ ρ H m S fl ρ' S' (D : Ends), Rep X.K m S H → RepL X.K m H σ ρ → evS Γ s ρ S = .ok (fl, ρ') S' → EndsOk X.K m H S' fl ρ' D → t D σ H
def SimSs (pys : List Stmt) (ss : Ss) : Prop := ∃ t : TS, PSs X pys t ∧ ∀ σ ρ H m S fl ρ' S' (D : Ends), Rep X.K m S H → RepL X.K m H σ ρ → evSs Γ ss ρ S = .ok (fl, ρ') S' → EndsOk X.K m H S' fl ρ' D → t D σ H
end
section
variable {Γ : Tx} {X : Cx} {st : Sta}
theorem sims_nil : SimSs Γ X [] .nil := ⟨_, pss_nil, fun σ ρ H m S fl ρ' S' D r l h q => by
  simp only [evSs] at h
  cases h
  exact q σ H m .refl r l⟩
theorem sims_cons {x : Stmt} {xs : List Stmt} {s : My.S} {ss : Ss} (h1 : SimS Γ X x s) (h2 : SimSs Γ X xs ss) : SimSs Γ X (x :: xs) (.cons s ss) := by
  obtain ⟨t, p, f⟩ := h1
  obtain ⟨u, ps, fs⟩ := h2
  refine ⟨_, pss_cons p ps, fun σ ρ H m S fl ρ' S' D r l h q => ?_⟩
  simp only [evSs] at h
  obtain ⟨⟨fl1, ρ1⟩, S1, e1, h3⟩ := bnd_ok h
  refine f σ ρ H m S fl1 ρ1 S1 _ r l e1 ?_
  cases fl1 with
  | nx => exact fun σ1 H1 m1 x1 r1 l1 => fs σ1 ρ1 H1 m1 S1 fl ρ' S' D r1 l1 h3 (q.ex x1)
  | bk => cases h3; exact q
  | ct => cases h3; exact q
  | rt d => cases h3; exact q
theorem swap_no {v : Expr} {o : Option Expr} {l : Nat} {env : PySem.Env} (h : isLc v = false) : swapsWith v o l env = pure false := by
  cases v <;> first | rfl | cases h
theorem sim_asgG {x v : Expr} {t : T} {e : E} {pos : Pos} (hg : SimG X x t) (he : SimE Γ X v e) (hs : swapsWithSole [x] v pos.line X.env = pure false) (hw : swappedStores [x] v X.env = pure none) (h1 : (assignEach [x] X.env).map (·.2) = [assign x X.env]) : SimS Γ X (.Assign [x] v pos) (.asg t e) := by
  obtain ⟨g, pg, fg⟩ := hg
  obtain ⟨te, pe, fe⟩ := he
  refine ⟨_, ps_asg pe pg hs hw h1, fun σ ρ H m S fl ρ' S' D r l h q => ?_⟩
  simp only [evS] at h
  obtain ⟨d, S1, e1, h2⟩ := bnd_ok h
  obtain ⟨ρ1, S2, e2, h3⟩ := bnd_ok h2
  obtain ⟨e3, rfl⟩ := opt_ok e2
  cases h3
  refine fe σ ρ H m S d S' _ r l e1 fun w H1 m1 x1 r1 i1 => ?_
  exact fg w d σ ρ ρ' H1 m1 _ (l.ex x1) i1 e3 fun σ2 l2 _ => q σ2 H1 m1 x1 r1 l2
theorem sim_exs {v : Expr} {e : E} {pos : Pos} (hn : isLc v = false) (he : SimE Γ X v e) : SimS Γ X (.Expr v pos) (.ex e) := by
  obtain ⟨te, pe, fe⟩ := he
  refine ⟨_, ps_expr pe (swap_no hn), fun σ ρ H m S fl ρ' S' D r l h q => ?_⟩
  simp only [evS] at h
  obtain ⟨d, S1, e1, h2⟩ := bnd_ok h
  cases h2
  exact fe σ ρ H m S d S' _ r l e1 fun w H1 m1 x1 r1 i1 => q σ H1 m1 x1 r1 (l.ex x1)
theorem sim_ret {v : Expr} {e : E} {pos : Pos} (he : SimE Γ X v e) : SimS Γ X (.Return (some v) pos) (.ret e) := by
  obtain ⟨te, pe, fe⟩ := he
  refine ⟨_, ps_ret pe, fun σ ρ H m S fl ρ' S' D r l h q => ?_⟩
  simp only [evS] at h
  obtain ⟨d, S1, e1, h2⟩ := bnd_ok h
  cases h2
  exact fe σ ρ H m S d S' _ r l e1 q
theorem sim_retn {pos : Pos} : SimS Γ X (.Return none pos) .retn :=
  ⟨_, ps_retN, fun σ ρ H m S fl ρ' S' D r l h q => by
    simp only [evS] at h
    cases h
    exact q .non H m .refl r .non⟩
theorem sim_iff {z : Expr} {c : E} {a b : Ss} {xs ys : List Stmt} {pos : Pos} (hc : SimT Γ X z c) (ha : SimSs Γ X xs a) (hb : SimSs Γ X ys b) : SimS Γ X (.If z xs ys pos) (.iff c a b) := by
  obtain ⟨tc, pc, fc⟩ := hc
  obtain ⟨ta, pa, fa⟩ := ha
  obtain ⟨tb, pb, fb⟩ := hb
  refine ⟨_, ps_if pc pa pb, fun σ ρ H m S fl ρ' S' D r l h q => ?_⟩
  simp only [evS] at h
  obtain ⟨k, S1, e1, h2⟩ := bnd_ok h
  refine fc σ ρ H m S k S1 _ r l e1 fun H1 m1 x1 r1 => ?_
  cases k with
  | true =>
    rw [if_pos rfl] at h2 ⊢
    exact fa σ ρ H1 m1 S1 fl ρ' S' D r1 (l.ex x1) h2 (q.ex x1)
  | false =>
    rw [if_neg Bool.false_ne_true] at h2 ⊢
    exact fb σ ρ H1 m1 S1 fl ρ' S' D r1 (l.ex x1) h2 (q.ex x1)
theorem sim_pass {pos : Pos} : SimS Γ X (.Pass pos) .pass := ⟨_, ps_pass, fun σ ρ H m S fl ρ' S' D r l h q => by
  simp only [evS] at h
  cases h
  exact q σ H m .refl r l⟩
theorem sim_brk {pos : Pos} : SimS Γ X (.Break pos) .brk := ⟨_, ps_break, fun σ ρ H m S fl ρ' S' D r l h q => by
  simp only [evS] at h
  cases h
  exact q σ H m .refl r l⟩
theorem sim_cont {pos : Pos} : SimS Γ X (.Continue pos) .cont := ⟨_, ps_continue, fun σ ρ H m S fl ρ' S' D r l h q => by
  simp only [evS] at h
  cases h
  exact q σ H m .refl r l⟩
theorem sim_nope {x : Stmt} : SimS Γ X x .nope := ⟨_, ps_never, fun σ ρ H m S fl ρ' S' D r l h q => by
  simp only [evS] at h
  exact (no_ok h).elim⟩
theorem sim_asgi {x y v : Expr} {o i e : E} {pos p : Pos} (hn : isLc v = false) (hi : plainI y = true) (ho : SimE Γ X x o) (hy : SimE Γ X y i) (he : SimE Γ X v e) : SimS Γ X (.Assign [.Subscript x y p] v pos) (.asgi o i e) := by
  obtain ⟨to, po, fo⟩ := ho
  obtain ⟨ti, pi, fi⟩ := hy
  obtain ⟨te, pe, fe⟩ := he
  refine ⟨_, ps_asg pe (pg_sub po pi set_list (by intro w; cases y <;> first | rfl | cases hi)) (by cases v <;> first | rfl | cases hn) (by cases v <;> rfl) rfl, fun σ ρ H m S fl ρ' S' D r l h q => ?_⟩
  simp only [evS] at h
  obtain ⟨d, S1, e1, h2⟩ := bnd_ok h
  obtain ⟨d2, S2, e2, h3⟩ := bnd_ok h2
  obtain ⟨d3, S3, e3, h4⟩ := bnd_ok h3
  refine fe σ ρ H m S d S1 _ r l e1 fun w H1 m1 x1 r1 i1 => ?_
  refine fo σ ρ H1 m1 S1 d2 S2 _ r1 (l.ex x1) e2 fun w2 H2 m2 x2 r2 i2 => ?_
  refine fi σ ρ H2 m2 S2 d3 S3 _ r2 ((l.ex x1).ex x2) e3 fun w3 H3 m3 x3 r3 i3 => ?_
  split at h4
  · rename_i n k
    split at h4
    · rename_i xs e5
      split at h4
      · rename_i j e6
        cases h4
        obtain ⟨a, vs, rfl, hm, hS, hH, hs⟩ := r3.rdM (i2.ex x3) e5
        cases i3
        refine ⟨a, vs, k, j, rfl, rfl, hH, by rw [hs.length]; exact e6, ?_⟩
        obtain ⟨r4, x4⟩ := r3.setL hm hS hH (hs.set j ((i1.ex x2).ex x3))
        exact q σ _ m3 (((x1.trans x2).trans x3).trans x4) r4 ((((l.ex x1).ex x2).ex x3).ex x4)
      · cases h4
    · cases h4
  · cases h4
theorem sim_aug (ok : Okx Γ st X) {i : Nat} {x : Str} {op : Bop} {v : Expr} {e : E} {p pos : Pos} (h1 : st.N[i]? = some x) (h2 : locB st x = true) (he : SimE Γ X v e) : SimS Γ X (.AugAssign (.Name x p) (bopP op) v pos) (.aug i op e) := by
  obtain ⟨te, pe, fe⟩ := he
  obtain ⟨h3, h4⟩ := loc_of ok h2
  by_cases hop : op = .add
  · subst hop
    refine ⟨_, ps_aug ok.nd (by rw [ok.N]; exact h1) h3 pe ip_add h4, fun σ ρ H m S fl ρ' S' D r l h q => ?_⟩
    simp only [evS] at h
    rcases e0 : ρ[i]? with _ | _ | d0
    · rw [e0] at h; cases h
    · rw [e0] at h; cases h
    · rw [e0] at h
      obtain ⟨d, S1, e1, h5⟩ := bnd_ok h
      obtain ⟨u, e2, i2⟩ := l.at_ i d0 e0
      refine ⟨u, e2, fe σ ρ H m S d S1 _ r l e1 fun w H1 m1 x1 r1 i1 => ?_⟩
      cases d0 <;> first | (cases h5; done) | skip
      cases d <;> first | (cases h5; done) | skip
      cases h5
      cases i2
      cases i1
      exact ⟨_, _, rfl, rfl, q _ H1 m1 x1 r1 ((l.ex x1).set i (.int _))⟩
  · by_cases hop2 : op = .sub
    · subst hop2
      refine ⟨_, ps_aug ok.nd (by rw [ok.N]; exact h1) h3 pe ip_sub h4, fun σ ρ H m S fl ρ' S' D r l h q => ?_⟩
      simp only [evS] at h
      rcases e0 : ρ[i]? with _ | _ | d0
      · rw [e0] at h; cases h
      · rw [e0] at h; cases h
      · rw [e0] at h
        obtain ⟨d, S1, e1, h5⟩ := bnd_ok h
        obtain ⟨u, e2, i2⟩ := l.at_ i d0 e0
        refine ⟨u, e2, fe σ ρ H m S d S1 _ r l e1 fun w H1 m1 x1 r1 i1 => ?_⟩
        cases d0 <;> first | (cases h5; done) | skip
        cases d <;> first | (cases h5; done) | skip
        cases h5
        cases i2
        cases i1
        exact ⟨_, _, rfl, rfl, q _ H1 m1 x1 r1 ((l.ex x1).set i (.int _))⟩
    · refine ⟨_, ps_never, fun σ ρ H m S fl ρ' S' D r l h q => ?_⟩
      simp only [evS] at h
      rcases e0 : ρ[i]? with _ | _ | d0
      · rw [e0] at h; cases h
      · rw [e0] at h; cases h
      · rw [e0] at h
        obtain ⟨d, S1, e1, h5⟩ := bnd_ok h
        cases op <;> first | exact (hop rfl).elim | exact (hop2 rfl).elim | (cases h5; done)
theorem sim_for (ok : Okx Γ st X) {t : T} {it : It} {b : Ss} {x i : Expr} {body : List Stmt} {pos : Pos} (hg : SimG X x t) (hi : SimI Γ X x i it) (hb : SimSs Γ X body b) (hf : ∀ y, foldedSetIterable i X.env y = pure y) : SimS Γ X (.For x i body [] pos) (.for_ t it b) := by
  obtain ⟨g, pg, fg⟩ := hg
  obtain ⟨wi, pi, fi⟩ := hi
  obtain ⟨tb, pb, fb⟩ := hb
  refine ⟨_, ps_for (by rw [ok.xe]; exact .never) ok.calm pi pg pb hf, fun σ ρ H m S fl ρ' S' D r l h q => ?_⟩
  simp only [evS] at h
  obtain ⟨w, S1, e1, h2⟩ := bnd_ok h
  refine fi σ ρ H m S w S1 _ r l e1 fun J H1 m1 x1 r1 j1 => ?_
  generalize hf : (fun (x : My.D) (ρ1 : My.Env) => match asgT t x ρ1 with
      | some ρ2 => evSs Γ b ρ2
      | none => no) = f at h2
  refine ⟨fun i n σ2 H2 => n = w.n - i ∧ i ≤ w.n ∧ ∃ m2 S2 ρ2, Ex m1 m2 H1 H2 ∧ Rep X.K m2 S2 H2 ∧ RepL X.K m2 H2 σ2 ρ2 ∧ loopF w f (w.n - i) i ρ2 S2 = .ok (fl, ρ') S', ⟨w.n, by simp, Nat.zero_le _, m1, S1, ρ, .refl, r1, l.ex x1, by simpa using h2⟩, ?_⟩
  rintro i n σ2 H2 ⟨hn, hi, m2, S2, ρ2, x2, r2, l2, e2⟩
  have q2 := (q.ex x1).ex x2
  cases hk : w.n - i with
  | zero =>
    rw [hk] at e2
    unfold loopF at e2
    have ei : i = w.n := by omega
    subst ei
    left
    split at e2
    · rename_i hfin
      cases e2
      exact ⟨(j1 m2 H2 _ x2 r2).2 hfin, q2 σ2 H2 m2 .refl r2 l2⟩
    · cases e2
  | succ k =>
    rw [hk] at e2
    right
    unfold loopF at e2
    split at e2
    · rename_i d hx
      have hi2 : i < w.n := by omega
      obtain ⟨hgo, hyl⟩ := (j1 m2 H2 S2 x2 r2).1 i d hi2 hx
      have hk1 : w.n - (i + 1) = k := by omega
      refine ⟨hgo, fun σ5 H5 => ∃ m5 S5 ρ5, Ex m1 m5 H1 H5 ∧ Rep X.K m5 S5 H5 ∧ RepL X.K m5 H5 σ5 ρ5 ∧ loopF w f k (i + 1) ρ5 S5 = .ok (fl, ρ') S', fun σ5 H5 h5 => ?_, fun u H3 hy => ?_⟩
      · obtain ⟨m5, S5, ρ5, g1, g2, g3, g4⟩ := h5
        exact ⟨w.n - (i + 1), by omega, rfl, hi2, m5, S5, ρ5, g1, g2, g3, by rw [hk1]; exact g4⟩
      · obtain ⟨x3, r3, i3⟩ := hyl u H3 hy
        have q3 := q2.ex x3
        cases hga : asgT t d ρ2 with
        | none =>
          rw [← hf] at e2
          simp only [hga] at e2; cases e2
        | some ρ3 =>
          refine fg u d σ2 ρ2 ρ3 H3 m2 _ (l2.ex x3) i3 hga fun σ3 l3 _ => ?_
          have ef : f d ρ2 S2 = evSs Γ b ρ3 S2 := by rw [← hf]; simp only [hga]
          rw [ef] at e2
          cases hbb : evSs Γ b ρ3 S2 with
          | no => rw [hbb] at e2; cases e2
          | ex _ _ => rw [hbb] at e2; cases e2
          | ok pr S4 =>
            obtain ⟨fl4, ρ4⟩ := pr
            rw [hbb] at e2
            refine fb σ3 ρ3 H3 m2 S2 fl4 ρ4 S4 _ r3 l3 hbb ?_
            cases fl4 with
            | nx => exact fun σ5 H5 m5 x5 r5 l5 => ⟨m5, S4, ρ4, (x2.trans x3).trans x5, r5, l5, e2⟩
            | ct => exact fun σ5 H5 m5 x5 r5 l5 => ⟨m5, S4, ρ4, (x2.trans x3).trans x5, r5, l5, e2⟩
            | bk => cases e2; exact q3
            | rt v => cases e2; exact q3
    · cases e2
theorem sim_whl (ok : Okx Γ st X) {c : E} {b : Ss} {z : Expr} {body : List Stmt} {pos : Pos} (hc : SimT Γ X z c) (hb : SimSs Γ X body b) : SimS Γ X (.While z body [] pos) (.whl c b) := by
  obtain ⟨tc, pc, fc⟩ := hc
  obtain ⟨tb, pb, fb⟩ := hb
  refine ⟨_, ps_while (by rw [ok.xe]; exact .never) pc pb, fun σ ρ H m S fl ρ' S' D r l h q => ?_⟩
  simp only [evS] at h
  refine ⟨fun n σ2 H2 => ∃ m2 S2 ρ2, Ex m m2 H H2 ∧ Rep X.K m2 S2 H2 ∧ RepL X.K m2 H2 σ2 ρ2 ∧ whileF (evT Γ c) (evSs Γ b) n ρ2 S2 = .ok (fl, ρ') S', ⟨Γ.fuel, m, S, ρ, .refl, r, l, h⟩, ?_⟩
  rintro n σ2 H2 ⟨m2, S2, ρ2, x2, r2, l2, e2⟩
  cases n with
  | zero => unfold whileF at e2; cases e2
  | succ k =>
    unfold whileF at e2
    obtain ⟨t, S3, e3, h3⟩ := bnd_ok e2
    refine fc σ2 ρ2 H2 m2 S2 t S3 _ r2 l2 e3 fun H3 m3 x3 r3 => ?_
    have q3 := (q.ex x2).ex x3
    have l3 := l2.ex x3
    cases t with
    | false =>
      rw [if_neg Bool.false_ne_true] at h3 ⊢
      cases h3
      exact q3 σ2 H3 m3 .refl r3 l3
    | true =>
      rw [if_pos rfl] at h3 ⊢
      refine ⟨fun σ5 H5 => ∃ m5 S5 ρ5, Ex m m5 H H5 ∧ Rep X.K m5 S5 H5 ∧ RepL X.K m5 H5 σ5 ρ5 ∧ whileF (evT Γ c) (evSs Γ b) k ρ5 S5 = .ok (fl, ρ') S', fun σ5 H5 h5 => ⟨k, Nat.lt_succ_self _, h5⟩, ?_⟩
      cases hbb : evSs Γ b ρ2 S3 with
      | no => simp only [hbb] at h3; cases h3
      | ex _ _ => simp only [hbb] at h3; cases h3
      | ok pr S4 =>
        obtain ⟨fl4, ρ4⟩ := pr
        simp only [hbb] at h3
        refine fb σ2 ρ2 H3 m3 S3 fl4 ρ4 S4 _ r3 l3 hbb ?_
        cases fl4 with
        | nx => exact fun σ5 H5 m5 x5 r5 l5 => ⟨m5, S4, ρ4, (x2.trans x3).trans x5, r5, l5, h3⟩
        | ct => exact fun σ5 H5 m5 x5 r5 l5 => ⟨m5, S4, ρ4, (x2.trans x3).trans x5, r5, l5, h3⟩
        | bk => cases h3; exact q3
        | rt v => cases h3; exact q3
end
end My

/-! All statements; a def's body. -/
namespace My
open PySem L2
section
variable {Γ : Tx}
theorem each_one {t : T} {st : Sta} {x : Expr} {env : PySem.Env} (h : chkT t st x = true) : (assignEach [x] env).map (·.2) = [assign x env] := by
  cases x <;> first | rfl | (cases t <;> first | (cases h; done) | (simp only [chkT] at h; cases h; done))
theorem swap_tup {v : Expr} {es : List Expr} {k : Nat} {p : Pos} {l : Nat} {env : PySem.Env} : swapsWithSole [.Tuple es k p] v l env = pure false := by
  cases v <;> rfl
theorem sole {t v : Expr} {l : Nat} {env : PySem.Env} : swapsWithSole [t] v l env = swapsWith v (some t) l env := rfl
theorem swap_cell {v : Expr} {y : Str} {p : Pos} {l : Nat} {env : PySem.Env} (h : env.scope.names.lookup y = some .cell) : swapsWithSole [.Name y p] v l env = pure false := by
  have ky : env.kindOf y = some .cell := h
  have e : (some NameKind.cell == some NameKind.local) = false := by decide
  cases v <;> first | rfl | (rw [sole]; unfold swapsWith; simp only [ky, e, Bool.and_false, Bool.false_and]; try rfl)
theorem swap_name {v : Expr} {y : Str} {p : Pos} {l : Nat} {env : PySem.Env} (h : isLc v = false) : swapsWithSole [.Name y p] v l env = pure false := by
  cases v <;> first | rfl | cases h
theorem stores_name {v : Expr} {y : Str} {p : Pos} {env : PySem.Env} : swappedStores [.Name y p] v env = pure none := by
  cases v <;> rfl
theorem sim_asg {st : Sta} {X : Cx} (ok : Okx Γ st X) {x v : Expr} {t : T} {e : E} {pos : Pos} (h0 : asgB st x v ≠ 0) (h1 : chkT t st x = true) (h2 : chkE e st v = true) : SimS Γ X (.Assign [x] v pos) (.asg t e) := by
  have he := simE e ok v h2
  cases x <;> first | (cases t <;> first | (cases h1; done) | (simp only [chkT] at h1; cases h1; done)) | skip
  case Name y py =>
    by_cases hl : isLc v = false
    · exact sim_asgG (simG ok t _ h1) he (swap_name hl) stores_name (each_one h1)
    · cases v <;> first | exact (hl rfl).elim | exact (h0 rfl).elim | skip
      rename_i el gs scope vp
      cases hk : st.sc.names.lookup y with
      | none => exfalso; apply h0; simp only [asgB, hk]
      | some k =>
        have hk2 : X.env.scope.names.lookup y = some k := by rw [ok.sc]; exact hk
        cases k <;> first | (exfalso; apply h0; simp only [asgB, hk]; done) | skip
        · -- a local
          simp only [asgB, hk] at h0
          split at h0
          · rename_i hc
            simp only [Bool.and_eq_true, Bool.not_eq_true'] at hc
            cases t with
            | tup ts => cases h1
            | name i =>
            simp only [chkT, Bool.and_eq_true, decide_eq_true_eq] at h1
            cases e <;> first | (cases h2; done) | (simp only [chkE] at h2; cases h2; done) | skip
            rename_i elt tg it cond own
            rcases gs with _ | ⟨⟨t, i2, ifs, a⟩, _ | ⟨_, _⟩⟩ <;> first | (cases h2; done) | (simp only [chkE] at h2; cases h2; done) | skip
            simp only [chkE, Bool.and_eq_true, decide_eq_true_eq] at h2
            obtain ⟨⟨⟨⟨⟨⟨⟨rfl, g1⟩, g2⟩, g3⟩, g4⟩, g5⟩, g6⟩, g7⟩ := h2
            obtain ⟨wi, g, tt, te, p1, p2, p3, p4, p5, f⟩ := sim_lc ok g1 g4 (simIt it ok i2 t g2) (fun X' ok' => simG ok' tg t g3) (fun X' ok' => simC cond ok' ifs g5) (fun X' ok' => simE elt ok' el g7) (folded_it (env := X.env) g2)
            refine ⟨_, ps_setLc ok.calm ok.nd (by rw [ok.N]; exact h1.1) hk2 (sw_true (by rw [ok.sc]; simpa using hc.2) hk2 hc.1.1 hc.1.2) p1 p2 p3 p4 p5 (folded_it g2), fun σ ρ H m S fl ρ' S' D r l h q => ?_⟩
            simp only [evS] at h
            obtain ⟨d, S1, e1, h5⟩ := bnd_ok h
            simp only [asgT] at h5
            cases h5
            refine f σ ρ H m S d S' _ r l e1 fun w H1 m1 x1 r1 i1 => ?_
            exact q _ H1 m1 x1 r1 ((l.ex x1).set i i1)
          · exact (h0 rfl).elim
        · exact sim_asgG (simG ok t _ h1) he (swap_cell hk2) stores_name (each_one h1)
  case Tuple es k py =>
    refine sim_asgG (simG ok t _ h1) he swap_tup ?_ (each_one h1)
    cases v <;> first | rfl | exact (h0 rfl).elim
mutual
theorem simS : ∀ (s : My.S) {st : Sta} {X : Cx} (_ : Okx Γ st X) (x : Stmt), chkS s st x = true → SimS Γ X x s
  | .asg t e, st, X, ok, x, h => by
    cases x <;> first | (cases h; done) | (simp only [chkS] at h; cases h; done) | skip
    rename_i ts v pos
    rcases ts with _ | ⟨x, _ | ⟨_, _⟩⟩ <;> first | (cases h; done) | (simp only [chkS] at h; cases h; done) | skip
    simp only [chkS, Bool.and_eq_true, bne_iff_ne] at h
    exact sim_asg ok h.1.1 h.1.2 h.2
  | .asgi o i e, st, X, ok, x, h => by
    cases x <;> first | (cases h; done) | (simp only [chkS] at h; cases h; done) | skip
    rename_i ts v pos
    rcases ts with _ | ⟨x, rs⟩ <;> first | (cases h; done) | skip
    cases x <;> first | (cases h; done) | skip
    rcases rs with _ | ⟨_, _⟩ <;> first | (cases h; done) | skip
    simp only [chkS, Bool.and_eq_true, Bool.not_eq_true'] at h
    exact sim_asgi h.1.1.1.1 h.1.1.1.2 (simE o ok _ h.1.1.2) (simE i ok _ h.1.2) (simE e ok _ h.2)
  | .aug i op e, st, X, ok, x, h => by
    cases x <;> first | (cases h; done) | (simp only [chkS] at h; cases h; done) | skip
    rename_i y o v pos
    cases y <;> first | (cases h; done) | (simp only [chkS] at h; cases h; done) | skip
    simp only [chkS, Bool.and_eq_true, decide_eq_true_eq] at h
    obtain ⟨⟨⟨h1, h2⟩, rfl⟩, h3⟩ := h
    exact sim_aug ok h1 h2 (simE e ok _ h3)
  | .ex e, st, X, ok, x, h => by
    cases x <;> first | (cases h; done) | (simp only [chkS] at h; cases h; done) | skip
    simp only [chkS, Bool.and_eq_true, Bool.not_eq_true'] at h
    exact sim_exs h.1 (simE e ok _ h.2)
  | .ret e, st, X, ok, x, h => by
    cases x <;> first | (cases h; done) | (simp only [chkS] at h; cases h; done) | skip
    rename_i v pos
    cases v <;> first | (cases h; done) | (simp only [chkS] at h; cases h; done) | skip
    simp only [chkS] at h
    exact sim_ret (simE e ok _ h)
  | .retn, st, X, ok, x, h => by
    cases x <;> first | (cases h; done) | (simp only [chkS] at h; cases h; done) | skip
    rename_i v pos
    cases v <;> first | (cases h; done) | (simp only [chkS] at h; cases h; done) | skip
    exact sim_retn
  | .iff c a b, st, X, ok, x, h => by
    cases x <;> first | (cases h; done) | (simp only [chkS] at h; cases h; done) | skip
    simp only [chkS, Bool.and_eq_true] at h
    exact sim_iff (simT c ok _ h.1.1) (simSs a ok _ h.1.2) (simSs b ok _ h.2)
  | .for_ t it b, st, X, ok, x, h => by
    cases x <;> first | (cases h; done) | (simp only [chkS] at h; cases h; done) | skip
    rename_i y i body els pos
    cases els <;> first | (cases h; done) | (simp only [chkS] at h; cases h; done) | skip
    simp only [chkS, Bool.and_eq_true] at h
    exact sim_for ok (simG ok t _ h.1.1) (simIt it ok _ _ h.1.2) (simSs b ok _ h.2) (folded_it h.1.2)
  | .whl c b, st, X, ok, x, h => by
    cases x <;> first | (cases h; done) | (simp only [chkS] at h; cases h; done) | skip
    rename_i y body els pos
    cases els <;> first | (cases h; done) | (simp only [chkS] at h; cases h; done) | skip
    simp only [chkS, Bool.and_eq_true] at h
    exact sim_whl ok (simT c ok _ h.1) (simSs b ok _ h.2)
  | .pass, st, X, ok, x, h => by
    cases x <;> first | (cases h; done) | (simp only [chkS] at h; cases h; done) | skip
    exact sim_pass
  | .brk, st, X, ok, x, h => by
    cases x <;> first | (cases h; done) | (simp only [chkS] at h; cases h; done) | skip
    exact sim_brk
  | .cont, st, X, ok, x, h => by
    cases x <;> first | (cases h; done) | (simp only [chkS] at h; cases h; done) | skip
    exact sim_cont
  | .nope, st, X, ok, x, h => sim_nope
theorem simSs : ∀ (ss : Ss) {st : Sta} {X : Cx} (_ : Okx Γ st X) (xs : List Stmt), chkSs ss st xs = true → SimSs Γ X xs ss
  | .nil, st, X, ok, xs, h => by
    cases xs with
    | nil => exact sims_nil
    | cons _ _ => cases h
  | .cons s ss, st, X, ok, xs, h => by
    cases xs with
    | nil => cases h
    | cons x xs =>
      simp only [chkSs, Bool.and_eq_true] at h
      exact sims_cons (simS s ok _ h.1) (simSs ss ok _ h.2)
end
end
end My

/-! The defs of a text keep their promise; the head. -/
namespace My
open PySem PySem.Spec PyProof.Rows L2
/-- a def: its own text, where it stands, its slots' names -/
structure Ent where
  df : Df
  dd : He.DefD
  N : List Str
def Ent.ps (e : Ent) : List Str := e.N.take e.df.np
def entB (e : Ent) : Bool :=
  decide (e.dd.at_ = (e.df.name, none)) && e.dd.dfl.isEmpty && e.dd.kwd.isEmpty && decide (e.df.np ≤ e.df.nn) && decide (e.N.length = e.df.nn) && C8.scC e.N e.ps e.dd.scope && chkSs e.df.body ⟨e.N, e.dd.scope, fun _ => true⟩ e.dd.body
def BindsE (e : Ent) : Prop := ∀ (kV doc pm : Value) (an : Option Addr) (cdv ct : Value) (us : List Value), us.length = e.ps.length → bindArgs (PySem.W.fnOf e.dd.name e.dd.qual e.dd.params e.dd.body e.dd.scope .none kV doc pm an cdv ct) ⟨us, []⟩ = pure (e.ps.zip us)
/-- what is known behind the top -/
structure Known (K : PySem.W.Frag) (mg : Str → Option Value) (T : List Ent) (con : Str → Option D) : Prop where
  ok : ∀ e ∈ T, entB e = true
  bind : ∀ e ∈ T, BindsE e
  fns : ∀ e ∈ T, ∃ fd, FunD K e.dd.name e.dd.qual e.dd.params e.dd.body e.dd.scope [] [] (He.ga K e.df.name) fd
  glo : ∀ e ∈ T, mg e.df.name = some (.ref (He.ga K e.df.name))
  blt : ∀ x ∈ blts, mg x = none
  con : ∀ x d, con x = some d → ∃ v u, mg x = some u ∧ RelV v u ∧ ∀ m H, IsD K m H v d
theorem find_ent : ∀ {T : List Ent} {f : Str} {d : Df}, findD (T.map (·.df)) f = some d → ∃ e ∈ T, e.df = d ∧ d.name = f
  | [], f, d, h => by cases h
  | e :: T, f, d, h => by
    simp only [List.map_cons, findD] at h
    split at h
    · rename_i hn
      cases h
      exact ⟨e, List.mem_cons_self, rfl, hn⟩
    · obtain ⟨e2, h1, h2⟩ := find_ent h
      exact ⟨e2, List.mem_cons_of_mem _ h1, h2⟩
theorem start_repl {K : PySem.W.Frag} {m : Mp} {H : Hp} {N : List Str} : ∀ {vs : List V} {args : List D}, IsDs K m H vs args → RepL K m H (L2.start N vs) (args.map some ++ List.replicate (N.length - args.length) none) := by
  intro vs args h
  have hl := h.length
  refine ⟨by simp [L2.start, hl], fun i d e => ?_⟩
  by_cases hi : i < args.length
  · rw [List.getElem?_append_left (by simpa using hi), List.getElem?_map] at e
    cases e1 : args[i]? with
    | none => rw [e1] at e; cases e
    | some x =>
      rw [e1] at e
      cases e
      obtain ⟨v, e2, e3⟩ := h.get e1
      refine ⟨v, ?_, e3⟩
      unfold L2.start
      rw [List.getElem?_append_left (by simpa [hl] using hi), List.getElem?_map, e2]
      rfl
  · rw [List.getElem?_append_right (by simpa using hi)] at e
    rw [List.getElem?_replicate] at e
    split at e <;> cases e
theorem Known.fn {P : Program} {w : World} {K : PySem.W.Frag} {mg : Str → Option Value} {base : Heap} {T : List Ent} {con : Str → Option D} {fuel : Nat} (kn : Known K mg T con) :
    ∀ (k : Nat) {e : Ent} {fd : FuncData}, e ∈ T → FunD K e.dd.name e.dd.qual e.dd.params e.dd.body e.dd.scope [] [] (He.ga K e.df.name) fd → findD (T.map (·.df)) e.df.name = some e.df →
      FnOk P w K mg base CX0 (k + 1) (He.ga K e.df.name) fd e.ps (spG K (callD (T.map (·.df)) con fuel (k + 1) e.df.name) e.ps.length) := by
  intro k
  induction k with
  | zero =>
    intro e fd he F hf
    have hb := kn.ok e he
    simp only [entB, Bool.and_eq_true, decide_eq_true_eq] at hb
    obtain ⟨⟨⟨⟨⟨⟨h1, h2⟩, h3⟩, h4⟩, h5⟩, h6⟩, h7⟩ := hb
    have S := C8.fnScope_by h6
    refine F.ok S (fun vs H Q E h => h.1) fun cdv A outer s H vs Q E hr h => ?_
    obtain ⟨hl, m, S0, args, d, S', r, i, hc, q⟩ := h
    have ok : Okx ⟨callD (T.map (·.df)) con fuel 0, con, fuel⟩ ⟨e.N, e.dd.scope, fun _ => true⟩ (cxOf CX0 P w K mg base e.N e.dd.qual e.dd.scope (He.ga K e.df.name) cdv A outer s H E).nox :=
      ⟨rfl, S.nd, rfl, fun _ _ => rfl, rfl, rfl, hr.units, kn.blt, kn.con, fun f => .inl fun _ _ => rfl⟩
    obtain ⟨t, p, fq⟩ := simSs e.df.body ok _ h7
    refine ⟨t, p.nox, ?_⟩
    unfold callD at hc
    rw [hf] at hc
    simp only [runD] at hc
    split at hc
    · rename_i hla
      obtain ⟨⟨fl, ρ'⟩, S1, e1, h8⟩ := bnd_ok hc
      refine fq _ _ H m S0 fl ρ' S1 _ r ?_ e1 ?_
      · have := start_repl (N := e.N) i
        rw [h5, hla] at this
        exact this
      · cases fl with
        | rt x =>
          obtain ⟨rfl, rfl⟩ := ret_ok h8
          exact q
        | nx =>
          obtain ⟨rfl, rfl⟩ := ret_ok h8
          exact fun σ' H' m' x r l => q .non H' m' x r .non
        | bk => exact (no_ok h8).elim
        | ct => exact (no_ok h8).elim
    · exact (no_ok hc).elim
  | succ k ih =>
    intro e fd he F hf
    have hb := kn.ok e he
    simp only [entB, Bool.and_eq_true, decide_eq_true_eq] at hb
    obtain ⟨⟨⟨⟨⟨⟨h1, h2⟩, h3⟩, h4⟩, h5⟩, h6⟩, h7⟩ := hb
    have S := C8.fnScope_by h6
    refine F.ok S (fun vs H Q E h => h.1) fun cdv A outer s H vs Q E hr h => ?_
    obtain ⟨hl, m, S0, args, d, S', r, i, hc, q⟩ := h
    have ok : Okx ⟨callD (T.map (·.df)) con fuel (k + 1), con, fuel⟩ ⟨e.N, e.dd.scope, fun _ => true⟩ (cxOf CX0 P w K mg base e.N e.dd.qual e.dd.scope (He.ga K e.df.name) cdv A outer s H E).nox := by
      refine ⟨rfl, S.nd, rfl, fun _ _ => rfl, rfl, rfl, hr.units, kn.blt, kn.con, fun f => ?_⟩
      cases hfd : findD (T.map (·.df)) f with
      | none =>
        left
        intro args s
        show callD (T.map (·.df)) con fuel (k + 1) f args s = .no
        unfold callD
        rw [hfd]
        rfl
      | some d2 =>
        right
        obtain ⟨e2, he2, rfl, hn⟩ := find_ent hfd
        obtain ⟨fd2, F2⟩ := kn.fns e2 he2
        have hb2 := kn.ok e2 he2
        simp only [entB, Bool.and_eq_true, decide_eq_true_eq] at hb2
        obtain ⟨⟨⟨⟨⟨⟨g1, g2⟩, g3⟩, g4⟩, g5⟩, g6⟩, g7⟩ := hb2
        have hpl : e2.ps.length = e2.df.np := by
          unfold Ent.ps
          rw [List.length_take, g5]
          omega
        subst hn
        refine ⟨k + 1, _, fd2, e2.ps, hr, kn.glo e2 he2, F2.kp, FunD.bindsN F2 (kn.bind e2 he2), ih he2 F2 hfd, fun args S d S' h => ?_⟩
        have h : callD (T.map (·.df)) con fuel (k + 1) e2.df.name args S = .ok d S' := h
        unfold callD at h
        rw [hfd] at h
        simp only [runD] at h
        split at h
        · rename_i hla
          rw [hpl]; exact hla
        · exact (no_ok h).elim
    obtain ⟨t, p, fq⟩ := simSs e.df.body ok _ h7
    refine ⟨t, p.nox, ?_⟩
    unfold callD at hc
    rw [hf] at hc
    simp only [runD] at hc
    split at hc
    · rename_i hla
      obtain ⟨⟨fl, ρ'⟩, S1, e1, h8⟩ := bnd_ok hc
      refine fq _ _ H m S0 fl ρ' S1 _ r ?_ e1 ?_
      · have := start_repl (N := e.N) i
        rw [h5, hla] at this
        exact this
      · cases fl with
        | rt x =>
          obtain ⟨rfl, rfl⟩ := ret_ok h8
          exact q
        | nx =>
          obtain ⟨rfl, rfl⟩ := ret_ok h8
          exact fun σ' H' m' x r l => q .non H' m' x r .non
        | bk => exact (no_ok h8).elim
        | ct => exact (no_ok h8).elim
    · exact (no_ok hc).elim
end My

/-! Constants by the frag; the end. -/
namespace My
open PySem PySem.Spec PyProof.Rows L2
/-- an object of the frag is such a constant -/
def vD (K : PySem.W.Frag) : Nat → D → Value → Bool
  | _, .non, .none => true
  | _, .bl b, .bool c => b == c
  | _, .int i, .int j _ => decide (i = j)
  | _, .str x, .str y _ => decide (x = y)
  | f + 1, .tup xs, .ref a => match K.lookup a with
    | some ⟨.type c, _, .seq its _, _⟩ => decide (c = "tuple") && (decide (its.size ≤ sizeLine) && (decide (xs.length = its.toList.length) && (xs.zip its.toList).all fun q => vD K f q.1 q.2))
    | _ => false
  | _, _, _ => false
theorem vDs_ok {K : PySem.W.Frag} {p : D → Value → Bool} (ih : ∀ d u, p d u = true → ∃ v, RelV v u ∧ ∀ m H, IsD K m H v d) : ∀ {xs : List D} {us : List Value}, xs.length = us.length → (xs.zip us).all (fun q => p q.1 q.2) = true →
    ∃ vs, Vals vs us ∧ ∀ m H, IsDs K m H vs xs
  | [], [], _, _ => ⟨[], .nil, fun _ _ => .nil⟩
  | [], _ :: _, h, _ => by cases h
  | _ :: _, [], h, _ => by cases h
  | x :: xs, u :: us, hl, h => by
    simp only [List.zip_cons_cons, List.all_cons, Bool.and_eq_true] at h
    obtain ⟨v, h1, h2⟩ := ih x u h.1
    obtain ⟨vs, h3, h4⟩ := vDs_ok ih (xs := xs) (us := us) (by simpa using hl) h.2
    exact ⟨v :: vs, .cons h1 h3, fun m H => .cons (h2 m H) (h4 m H)⟩
theorem vD_ok {K : PySem.W.Frag} : ∀ (f : Nat) (d : D) (u : Value), vD K f d u = true → ∃ v, RelV v u ∧ ∀ m H, IsD K m H v d := by
  intro f
  induction f with
  | zero =>
    intro d u h
    cases d <;> cases u <;> first | (cases h; done) | skip
    · exact ⟨.non, rfl, fun _ _ => .non⟩
    · rename_i b c
      have e : b = c := eq_of_beq (show (b == c) = true from h)
      subst e
      exact ⟨.bl b, rfl, fun _ _ => .bl b⟩
    · rename_i i j t
      have e : i = j := of_decide_eq_true h
      subst e
      exact ⟨.int i, ⟨t, rfl⟩, fun _ _ => .int i⟩
    · rename_i i j t
      have e : i = j := of_decide_eq_true h
      subst e
      exact ⟨.str i, ⟨t, rfl⟩, fun _ _ => .str i⟩
  | succ f ih =>
    intro d u h
    cases d <;> cases u <;> first | (cases h; done) | skip
    · exact ⟨.non, rfl, fun _ _ => .non⟩
    · rename_i b c
      have e : b = c := eq_of_beq (show (b == c) = true from h)
      subst e
      exact ⟨.bl b, rfl, fun _ _ => .bl b⟩
    · rename_i i j t
      have e : i = j := of_decide_eq_true h
      subst e
      exact ⟨.int i, ⟨t, rfl⟩, fun _ _ => .int i⟩
    · rename_i i j t
      have e : i = j := of_decide_eq_true h
      subst e
      exact ⟨.str i, ⟨t, rfl⟩, fun _ _ => .str i⟩
    · rename_i xs a
      unfold vD at h
      split at h
      · rename_i c od its n sl q
        simp only [Bool.and_eq_true, decide_eq_true_eq] at h
        obtain ⟨h1, h2, h3, h4⟩ := h
        obtain ⟨vs, h5, h6⟩ := vDs_ok ih h3 h4
        exact ⟨.ref a, rfl, fun m H => .tup (.inr ⟨_, its, n, q, congrArg Value.type h1, rfl, h2, h5⟩) (h6 m H)⟩
      · cases h
def conOf (cs : List (Str × D)) (x : Str) : Option D := cs.lookup x
def csB (cs : List (Str × D)) (K : PySem.W.Frag) : Bool := cs.all fun q => match PySem.W.nsIn K mainGlobals q.1 with
  | some (some u) => vD K 8 q.2 u
  | _ => false
theorem lookup_mem' {α : Type} {x : Str} {d : α} : ∀ {l : List (Str × α)}, l.lookup x = some d → (x, d) ∈ l
  | [], h => by cases h
  | (y, e) :: r, h => by
    have h2 : (match x == y with | true => some e | false => r.lookup x) = some d := h
    cases q : (x == y) with
    | true =>
      rw [q] at h2
      have e2 : e = d := Option.some.inj h2
      rw [beq_iff_eq.mp q, e2]
      exact List.mem_cons_self
    | false =>
      rw [q] at h2
      exact List.mem_cons_of_mem _ (lookup_mem' h2)
theorem csB_ok {K : PySem.W.Frag} {h : Heap} {mg : Str → Option Value} {cs : List (Str × D)} (X : K.In h) (G : h.Ns mainGlobals mg) (c : csB cs K = true) : ∀ x d, cs.lookup x = some d → ∃ v u, mg x = some u ∧ RelV v u ∧ ∀ m H, IsD K m H v d := by
  intro x d e
  have h2 := List.all_eq_true.mp c _ (lookup_mem' e)
  dsimp only at h2
  split at h2
  · rename_i u e3
    obtain ⟨v, h4, h5⟩ := vD_ok 8 d u h2
    exact ⟨v, u, PySem.W.mg_of X G e3, h4, h5⟩
  · cases h2
/-- the facts that are asked -/
def faOf (T : List Ent) : List He.Fa := (T.map fun e => He.Fa.glo e.df.name) ++ blts.map He.Fa.free
abbrev hkOf (T : List Ent) (cs : List (Str × D)) : PySem.W.Hook := He.hookX 5 (faOf T) (T.map (·.dd)) [] [] (csB cs)
def obOf (T : List Ent) (cs : List (Str × D)) (s : PySem.W.SharedT) : He.AlX := He.obsX 5 (faOf T) (T.map (·.dd)) [] [] (csB cs) (HandSHeadRun.getT s)
theorem obOf_eq (T : List Ent) (cs : List (Str × D)) (s : PySem.W.SharedT) : obOf T cs s = (hkOf T cs).obs s.abs := He.obsX_eq (HandSHeadRun.getT_eq s)
theorem known_of {K : PySem.W.Frag} {h : Heap} {mg : Str → Option Value} {T : List Ent} {cs : List (Str × D)} {w : World} (X : K.In h) (G : h.Ns mainGlobals mg) (c : He.SaysX (faOf T) (T.map (·.dd)) [] [] (csB cs) w h K)
    (ok : T.all entB = true) (bind : ∀ e ∈ T, BindsE e) : Known K mg T (conOf cs) := by
  have cd := c.t.d
  refine ⟨fun e he => List.all_eq_true.mp ok e he, bind, fun e he => ?_, fun e he => ?_, fun x hx => ?_, csB_ok X G c.more⟩
  · have hb := List.all_eq_true.mp ok e he
    simp only [entB, Bool.and_eq_true, decide_eq_true_eq] at hb
    obtain ⟨⟨⟨⟨⟨⟨h1, h2⟩, h3⟩, h4⟩, h5⟩, h6⟩, h7⟩ := hb
    obtain ⟨fd, F⟩ := cd.defs (d := e.dd) (List.mem_map_of_mem he)
    have e1 : e.dd.dvs K = [] := by unfold He.DefD.dvs; rw [List.isEmpty_iff.mp h2]; rfl
    have e2 : e.dd.kws K = [] := by unfold He.DefD.kws; rw [List.isEmpty_iff.mp h3]; rfl
    have e3 : He.fAd K e.dd.at_ = He.ga K e.df.name := by rw [h1]; rfl
    rw [e1, e2, e3] at F
    exact ⟨fd, F⟩
  · exact He.glo_ok X G (cd.facts (List.mem_append_left _ (List.mem_map_of_mem he)))
  · exact He.free_ok X G (cd.facts (List.mem_append_right _ (List.mem_map_of_mem hx)))
theorem walk_my {l : PySem.W.OpenLaw} {q : Program} {loose : List Str} {XP : (Str → Option Value) → Heap → Prop} {d : DefRec} {T : List Ent} {cs : List (Str × D)} {k fuel : Nat} {x : Str} (eL : Ent)
    (hn : l.most = some 63) (hdf : d.params.defaults = []) (hr : Room (k + 1) callerA) (hdn : d.name = eL.df.name) (heL : eL ∈ T) (hps : eL.ps = [x]) (hfd : findD (T.map (·.df)) eL.df.name = some eL.df) (ok : T.all entB = true) (bind : ∀ e ∈ T, BindsE e)
    (law : ∀ ns : List Int, ns.length ≤ 63 → ∃ S', callD (T.map (·.df)) (conOf cs) fuel (k + 1) eL.df.name [.ref 0] [.ro (ns.map .int)] = .ok (.bl true) S') :
    PySem.W.WalkO q loose XP (hkOf T cs).says l.row.toRowW d [] (fun f vs => PySem.call f vs) := by
  refine L2.walk_ofE (l := l) (n := 63) (k := k + 1) (x := x) (CX := L2.CX0) hn (by decide) hdf hr ?F (fun _ _ _ _ z => z)
  intro w mg fa h Y G hmg0
  obtain ⟨K, KX, c⟩ := Y
  have kn := known_of KX G c ok bind
  have hmg := kn.glo eL heL
  rw [← hdn, hmg0] at hmg
  cases hmg
  obtain ⟨fd, F⟩ := kn.fns eL heL
  have b := FunD.bindsA F (kn.bind eL heL)
  refine ⟨K, fd, spG K (callD (T.map (·.df)) (conOf cs) fuel (k + 1) eL.df.name) 1, KX, fun s u => ?_, fun H a ns hl ho hS => ?_, fun base KB GB => ?_⟩
  · have := b s [u] (by rw [hps]; rfl)
    rw [hps] at this
    exact this
  · obtain ⟨S', e⟩ := law ns hl
    have ro : RoL K H a (ns.map V.int) := by
      rcases hS with (h1 | ⟨o, h1⟩) | h1
      · rcases ho a with z | ⟨o, xs, z⟩ <;> rw [z] at h1 <;> cases h1
      · exact .inl ⟨o, h1⟩
      · exact .inr h1
    refine ⟨rfl, [(a, false)], [.ro (ns.map .int)], [.ref 0], .bl true, S', ⟨rfl, fun i j b h1 _ => ?_, fun i b f o h1 h2 => ?_⟩, .cons (.ref (f := false) rfl) .nil, e, fun v H' m' x r i => ?_⟩
    · rcases i with _ | i <;> simp at h1
    · rcases i with _ | i
      · simp at h1 h2
        obtain ⟨rfl, rfl⟩ := h1
        subst h2
        exact ⟨rfl, _, ro, .ofInts ns⟩
      · simp at h1
    · cases i
      rfl
  · rw [hdn]
    have := kn.fn (P := l.prog) (w := w) (base := base) (fuel := fuel) k heL F hfd
    rw [hps] at this
    exact this
end My

/-! Reasoning about the evaluator. -/
namespace My
open PySem PySem.Spec PyProof.Rows L2
/-- it ends in a value, and Q holds of it and of the store -/
def Wp {α : Type} (m : M α) (S : Store) (Q : α → Store → Prop) : Prop := ∃ a S', m S = .ok a S' ∧ Q a S'
section
variable {α β : Type} {S : Store} {Q : α → Store → Prop}
theorem Wp.mono {m : M α} {R : α → Store → Prop} (h : Wp m S Q) (g : ∀ a S', Q a S' → R a S') : Wp m S R := by
  obtain ⟨a, S', e, q⟩ := h
  exact ⟨a, S', e, g a S' q⟩
theorem wp_bnd {m : M β} {f : β → M α} : Wp (bnd m f) S Q ↔ Wp m S fun a S1 => Wp (f a) S1 Q := by
  constructor
  · rintro ⟨a, S', e, q⟩
    obtain ⟨b, S1, e1, e2⟩ := bnd_ok e
    exact ⟨b, S1, e1, a, S', e2, q⟩
  · rintro ⟨b, S1, e1, a, S', e2, q⟩
    exact ⟨a, S', by simp only [bnd, e1, e2], q⟩
theorem wp_ret {a : α} : Wp (ret a) S Q ↔ Q a S := by
  constructor
  · rintro ⟨b, S', e, q⟩; cases e; exact q
  · intro q; exact ⟨a, S, rfl, q⟩
theorem wp_no : Wp (no : M α) S Q ↔ False := by
  constructor
  · rintro ⟨b, S', e, q⟩; cases e
  · intro q; exact q.elim
theorem wp_okf {m : M α} {a : α} {S' : Store} (h : m S = .ok a S') : Wp m S Q ↔ Q a S' := by
  constructor
  · rintro ⟨b, S2, e, q⟩; rw [h] at e; cases e; exact q
  · intro q; exact ⟨a, S', h, q⟩
theorem wp_see {f : Store → Option α} : Wp (see f) S Q ↔ ∃ a, f S = some a ∧ Q a S := by
  constructor
  · rintro ⟨b, S2, e, q⟩
    obtain ⟨e, rfl⟩ := see_ok e
    exact ⟨b, e, q⟩
  · rintro ⟨a, e, q⟩
    exact ⟨a, S, by simp only [see, e], q⟩
theorem wp_opt {o : Option α} : Wp (opt o) S Q ↔ ∃ a, o = some a ∧ Q a S := by
  constructor
  · rintro ⟨b, S2, e, q⟩
    obtain ⟨e2, rfl⟩ := opt_ok e
    exact ⟨b, e2, q⟩
  · rintro ⟨a, rfl, q⟩
    exact ⟨a, S, rfl, q⟩
theorem wp_newL {xs : List D} {Q : D → Store → Prop} : Wp (newL xs) S Q ↔ Q (.ref S.length) (S ++ [.lst xs]) := wp_okf rfl
theorem wp_setL {n : Nat} {xs : List D} {Q : D → Store → Prop} : Wp (setL n xs) S Q ↔ Q .non (S.set n (.lst xs)) := wp_okf rfl
theorem wp_ite {c : Prop} [Decidable c] {m n : M α} : Wp (if c then m else n) S Q ↔ (c → Wp m S Q) ∧ (¬ c → Wp n S Q) := by
  by_cases h : c
  · simp [h]
  · simp [h]
end
section
variable {S : Store} {Q : D → Store → Prop}
theorem wp_add {i j : Int} : Wp (bopF .add (.int i) (.int j)) S Q ↔ Q (.int (i + j)) S := wp_okf rfl
theorem wp_sub {i j : Int} : Wp (bopF .sub (.int i) (.int j)) S Q ↔ Q (.int (i - j)) S := wp_okf rfl
theorem wp_mul {i j : Int} (h : i.natAbs.log2 + j.natAbs.log2 < 1000000) : Wp (bopF .mul (.int i) (.int j)) S Q ↔ Q (.int (i * j)) S := wp_okf (by simp only [bopF, if_pos h])
theorem wp_fdiv {i j : Int} (h : 0 < j ∧ j.natAbs.log2 < 9000) : Wp (bopF .fdiv (.int i) (.int j)) S Q ↔ Q (.int (i / j)) S := wp_okf (by simp only [bopF, if_pos h])
theorem wp_mod {i j : Int} (h : 0 < j) : Wp (bopF .mod (.int i) (.int j)) S Q ↔ Q (.int (i % j)) S := wp_okf (by simp only [bopF, if_pos h])
theorem wp_addS {x y : Str} (h : x.length + y.length ≤ sizeLine) : Wp (bopF .add (.str x) (.str y)) S Q ↔ Q (.str (x ++ y)) S := wp_okf (by simp only [bopF, if_pos h])
theorem wp_addT {xs ys : List D} (h : xs.length + ys.length ≤ sizeLine) : Wp (bopF .add (.tup xs) (.tup ys)) S Q ↔ Q (.tup (xs ++ ys)) S := wp_okf (by simp only [bopF, if_pos h])
theorem wp_idxT {xs : List D} {k : Int} {d : D} (h : atI xs k = some d) : Wp (idxF (.tup xs) (.int k)) S Q ↔ Q d S := wp_okf (by simp only [idxF, h])
theorem wp_idxL {n : Nat} {xs : List D} {k : Int} {d : D} (hr : rdL S n = some xs) (h : atI xs k = some d) : Wp (idxF (.ref n) (.int k)) S Q ↔ Q d S := wp_okf (by simp only [idxF, hr, Option.bind_some, h])
end
/-! ### calls -/
/-- the text's def of that name -/
abbrev Has (ds : List Df) (L : List Df) : Prop := ∀ d ∈ L, findD ds d.name = some d
theorem callD_of {ds : List Df} {con : Str → Option D} {fuel k : Nat} {d : Df} {args : List D} (h : findD ds d.name = some d) : callD ds con fuel (k + 1) d.name args = runD ⟨callD ds con fuel k, con, fuel⟩ d args := by
  show (match findD ds d.name with
    | some d => runD ⟨callD ds con fuel k, con, fuel⟩ d args
    | none => no) = _
  rw [h]
/-- how a body ends -/
def Fin (Q : D → Store → Prop) (r : Fl × Env) (S : Store) : Prop := match r.1 with
  | .rt d => Q d S
  | .nx => Q .non S
  | _ => False
theorem wp_call {ds : List Df} {con : Str → Option D} {fuel k : Nat} {d : Df} {f : Str} {args : List D} {S : Store} {Q : D → Store → Prop} (h : findD ds d.name = some d) (hf : f = d.name) (hl : args.length = d.np)
    (hb : Wp (evSs ⟨callD ds con fuel k, con, fuel⟩ d.body (args.map some ++ List.replicate (d.nn - d.np) none)) S (Fin Q)) : Wp (callD ds con fuel (k + 1) f args) S Q := by
  subst hf
  rw [callD_of h]
  unfold runD
  rw [if_pos hl, wp_bnd]
  refine hb.mono fun r S1 q => ?_
  obtain ⟨fl, ρ1⟩ := r
  cases fl with
  | rt x => exact wp_ret.mpr q
  | nx => exact wp_ret.mpr q
  | bk => exact q.elim
  | ct => exact q.elim
/-! ### one statement behind another -/
/-- what stands behind a statement -/
def Then (Γ : Tx) (ss : Ss) (Q : Fl × Env → Store → Prop) (r : Fl × Env) (S : Store) : Prop := match r.1 with
  | .nx => Wp (evSs Γ ss r.2) S Q
  | _ => Q r S
section
variable {Γ : Tx} {ρ : Env} {S : Store} {Q : Fl × Env → Store → Prop}
theorem wp_nil : Wp (evSs Γ .nil ρ) S Q ↔ Q (.nx, ρ) S := by simp only [evSs, wp_ret]
theorem wp_cons {s : My.S} {ss : Ss} : Wp (evSs Γ (.cons s ss) ρ) S Q ↔ Wp (evS Γ s ρ) S (Then Γ ss Q) := by
  simp only [evSs, wp_bnd]
  constructor
  · rintro ⟨⟨fl, ρ1⟩, S1, e, q⟩
    refine ⟨_, S1, e, ?_⟩
    cases fl with
    | nx => exact q
    | rt x => exact (show Q (.rt x, ρ1) S1 from wp_ret.mp q)
    | bk => exact (show Q (.bk, ρ1) S1 from wp_ret.mp q)
    | ct => exact (show Q (.ct, ρ1) S1 from wp_ret.mp q)
  · rintro ⟨⟨fl, ρ1⟩, S1, e, q⟩
    refine ⟨_, S1, e, ?_⟩
    cases fl with
    | nx => exact q
    | rt x => exact wp_ret.mpr (show Q (.rt x, ρ1) S1 from q)
    | bk => exact wp_ret.mpr (show Q (.bk, ρ1) S1 from q)
    | ct => exact wp_ret.mpr (show Q (.ct, ρ1) S1 from q)
theorem then_nx {ss : Ss} : Then Γ ss Q (.nx, ρ) S ↔ Wp (evSs Γ ss ρ) S Q := Iff.rfl
theorem then_rt {ss : Ss} {d : D} : Then Γ ss Q (.rt d, ρ) S ↔ Q (.rt d, ρ) S := Iff.rfl
theorem then_bk {ss : Ss} : Then Γ ss Q (.bk, ρ) S ↔ Q (.bk, ρ) S := Iff.rfl
theorem then_ct {ss : Ss} : Then Γ ss Q (.ct, ρ) S ↔ Q (.ct, ρ) S := Iff.rfl
end
theorem fin_rt {Q : D → Store → Prop} {d : D} {ρ : Env} {S : Store} : Fin Q (.rt d, ρ) S ↔ Q d S := Iff.rfl
theorem fin_nx {Q : D → Store → Prop} {ρ : Env} {S : Store} : Fin Q (.nx, ρ) S ↔ Q .non S := Iff.rfl
/-! ### loops -/
theorem loop_wp {w : Wk} {f : D → Env → M (Fl × Env)} {Q : Fl × Env → Store → Prop} (I : Nat → Env → Store → Prop)
    (step : ∀ i ρ S, i < w.n → I i ρ S → ∃ x, w.at_ i S = some x ∧ Wp (f x ρ) S fun r S1 => match r.1 with
      | .nx => I (i + 1) r.2 S1
      | .ct => I (i + 1) r.2 S1
      | .bk => Q (.nx, r.2) S1
      | .rt d => Q (.rt d, r.2) S1)
    (done : ∀ ρ S, I w.n ρ S → w.fin S = true ∧ Q (.nx, ρ) S) : ∀ (k i : Nat) (ρ : Env) (S : Store), i + k = w.n → I i ρ S → Wp (loopF w f k i ρ) S Q := by
  intro k
  induction k with
  | zero =>
    intro i ρ S hi h
    have : i = w.n := by omega
    subst this
    obtain ⟨h1, h2⟩ := done ρ S h
    exact ⟨_, _, by unfold loopF; simp only [h1, if_true], h2⟩
  | succ k ih =>
    intro i ρ S hi h
    obtain ⟨x, hx, ⟨⟨fl, ρ1⟩, S1, e, q⟩⟩ := step i ρ S (by omega) h
    cases fl with
    | nx =>
      obtain ⟨a, S2, e2, q2⟩ := ih (i + 1) ρ1 S1 (by omega) q
      exact ⟨a, S2, by unfold loopF; simp only [hx, e, e2], q2⟩
    | ct =>
      obtain ⟨a, S2, e2, q2⟩ := ih (i + 1) ρ1 S1 (by omega) q
      exact ⟨a, S2, by unfold loopF; simp only [hx, e, e2], q2⟩
    | bk => exact ⟨_, _, by unfold loopF; simp only [hx, e], q⟩
    | rt d => exact ⟨_, _, by unfold loopF; simp only [hx, e], q⟩
theorem comp_wp {w : Wk} {f : D → M (Option D)} {Q : D → Store → Prop} (I : Nat → List D → Store → Prop)
    (step : ∀ i acc S, i < w.n → I i acc S → ∃ x, w.at_ i S = some x ∧ Wp (f x) S fun r S1 => match r with
      | some y => acc.length < sizeLine ∧ I (i + 1) (acc ++ [y]) S1
      | none => I (i + 1) acc S1)
    (done : ∀ acc S, I w.n acc S → w.fin S = true ∧ Q (.ref S.length) (S ++ [.lst acc])) : ∀ (k i : Nat) (acc : List D) (S : Store), i + k = w.n → I i acc S → Wp (compF w f k i acc) S Q := by
  intro k
  induction k with
  | zero =>
    intro i acc S hi h
    have : i = w.n := by omega
    subst this
    obtain ⟨h1, h2⟩ := done acc S h
    exact ⟨_, _, by unfold compF; simp only [h1, if_true]; rfl, h2⟩
  | succ k ih =>
    intro i acc S hi h
    obtain ⟨x, hx, ⟨r, S1, e, q⟩⟩ := step i acc S (by omega) h
    cases r with
    | none =>
      obtain ⟨a, S2, e2, q2⟩ := ih (i + 1) acc S1 (by omega) q
      exact ⟨a, S2, by unfold compF; simp only [hx, e, e2], q2⟩
    | some y =>
      obtain ⟨a, S2, e2, q2⟩ := ih (i + 1) (acc ++ [y]) S1 (by omega) q.2
      exact ⟨a, S2, by unfold compF; simp only [hx, e, if_pos q.1, e2], q2⟩
/-! ### growth -/
def Gr (S S' : Store) : Prop := ∃ X, S' = S ++ X
theorem Gr.refl (S : Store) : Gr S S := ⟨[], by simp⟩
theorem Gr.trans {S S1 S2 : Store} (h : Gr S S1) (g : Gr S1 S2) : Gr S S2 := by
  obtain ⟨X, rfl⟩ := h
  obtain ⟨Y, rfl⟩ := g
  exact ⟨X ++ Y, by simp⟩
theorem Gr.app {S : Store} (X : Store) : Gr S (S ++ X) := ⟨X, rfl⟩
theorem Gr.one {S S1 : Store} (h : Gr S S1) (o : Ob) : Gr S (S1 ++ [o]) := h.trans (.app _)
theorem rdL_app {S X : Store} {n : Nat} {xs : List D} (h : rdL S n = some xs) : rdL (S ++ X) n = some xs := by
  unfold rdL at h ⊢
  have hn : n < S.length := by
    by_cases hn : n < S.length
    · exact hn
    · rw [List.getElem?_eq_none (by omega)] at h; cases h
  rw [List.getElem?_append_left hn]; exact h
theorem Gr.rdL {S S1 : Store} (h : Gr S S1) {n : Nat} {xs : List D} (e : rdL S n = some xs) : My.rdL S1 n = some xs := by
  obtain ⟨X, rfl⟩ := h
  exact rdL_app e
theorem rdL_new {S : Store} {xs : List D} : rdL (S ++ [.lst xs]) S.length = some xs := by
  unfold rdL; simp
/-- a pure piece: for each item, a value; the store only grows -/
theorem comp_items {xs : List D} {f : D → M (Option D)} {g : D → D} {S : Store} {Q : D → Store → Prop} (hl : xs.length ≤ sizeLine) (h : ∀ x ∈ xs, ∀ S, Wp (f x) S fun r S1 => r = some (g x) ∧ Gr S S1)
    (q : ∀ S1, Gr S S1 → Q (.ref S1.length) (S1 ++ [.lst (xs.map g)])) : Wp (compF (wkItems xs) f xs.length 0 []) S Q := by
  refine comp_wp (w := wkItems xs) (fun i acc S1 => acc = (xs.take i).map g ∧ Gr S S1) (fun i acc S1 hi h1 => ?_) (fun acc S1 h1 => ?_) xs.length 0 [] S (by simp [wkItems]) ⟨by simp, .refl _⟩
  · have hi : i < xs.length := hi
    obtain ⟨rfl, hg⟩ := h1
    refine ⟨xs[i], List.getElem?_eq_getElem hi, (h xs[i] (List.getElem_mem hi) S1).mono ?_⟩
    rintro r S2 ⟨rfl, hg2⟩
    refine ⟨by simp; omega, ?_, hg.trans hg2⟩
    rw [List.take_succ_eq_append_getElem hi, List.map_append]
    rfl
  · obtain ⟨rfl, hg⟩ := h1
    refine ⟨rfl, ?_⟩
    have := q S1 hg
    have e : (wkItems xs).n = xs.length := rfl
    rw [e, List.take_length]
    exact this
/-- the same over a list in the store -/
theorem comp_list {n : Nat} {xs : List D} {f : D → M (Option D)} {g : D → D} {S : Store} {Q : D → Store → Prop} (hr : rdL S n = some xs) (hl : xs.length ≤ sizeLine) (h : ∀ x ∈ xs, ∀ S, Wp (f x) S fun r S1 => r = some (g x) ∧ Gr S S1)
    (q : ∀ S1, Gr S S1 → Q (.ref S1.length) (S1 ++ [.lst (xs.map g)])) : Wp (compF (wkList n xs.length) f xs.length 0 []) S Q := by
  refine comp_wp (w := wkList n xs.length) (fun i acc S1 => acc = (xs.take i).map g ∧ Gr S S1) (fun i acc S1 hi h1 => ?_) (fun acc S1 h1 => ?_) xs.length 0 [] S (by simp [wkList]) ⟨by simp, .refl _⟩
  · have hi : i < xs.length := hi
    obtain ⟨rfl, hg⟩ := h1
    refine ⟨xs[i], by simp only [wkList, hg.rdL hr, Option.bind_some]; exact List.getElem?_eq_getElem hi, (h xs[i] (List.getElem_mem hi) S1).mono ?_⟩
    rintro r S2 ⟨rfl, hg2⟩
    refine ⟨by simp; omega, ?_, hg.trans hg2⟩
    rw [List.take_succ_eq_append_getElem hi, List.map_append]
    rfl
  · obtain ⟨rfl, hg⟩ := h1
    refine ⟨by simp only [wkList, hg.rdL hr]; simp, ?_⟩
    have := q S1 hg
    have e : (wkList n xs.length).n = xs.length := rfl
    rw [e, List.take_length]
    exact this
end My

namespace My.Lib
open PySem My
def b_is_integer : Ss :=
 (.cons (.ret (.and_ (.cons (.isi (.var 0) .int) (.cons (.not_ (.isi (.var 0) .bool)) .nil))))
 .nil)
def df_is_integer : Df := ⟨"is_integer", 1, 1, b_is_integer⟩
def b_is_ascending : Ss :=
 (.cons (.iff (.not_ (.isi (.var 0) .tuple)) (.cons (.ret (.lit (.bl false)))
 .nil) .nil)
 (.cons (.asg (.name 2) (.lit (.int 0)))
 (.cons (.for_ (.name 3) (.val (.var 0)) (.cons (.iff (.or_ (.cons (.not_ (.call "is_integer" (.cons (.var 3) .nil))) (.cons (.cmp .lt (.var 3) (.var 2)) (.cons (.cmp .ge (.var 3) (.var 1)) .nil)))) (.cons (.ret (.lit (.bl false)))
 .nil) .nil)
 (.cons (.asg (.name 2) (.bin .add (.var 3) (.lit (.int 1))))
 .nil)))
 (.cons (.ret (.lit (.bl true)))
 .nil))))
def df_is_ascending : Df := ⟨"is_ascending", 2, 4, b_is_ascending⟩
def b_is_word : Ss :=
 (.cons (.ret (.and_ (.cons (.isi (.var 0) .str) (.cons (.cmp .in_ (.var 0) (.var 1)) .nil))))
 .nil)
def df_is_word : Df := ⟨"is_word", 2, 2, b_is_word⟩
def b_is_rule : Ss :=
 (.cons (.iff (.or_ (.cons (.not_ (.isi (.var 0) .tuple)) (.cons (.cmp .ne (.blt .len (.cons (.var 0) .nil)) (.lit (.int 8))) .nil))) (.cons (.ret (.lit (.bl false)))
 .nil) .nil)
 (.cons (.asg (.tup [(.name 3), (.name 4), (.name 5), (.name 6), (.name 7), (.name 8), (.name 9), (.name 10)]) (.var 0))
 (.cons (.for_ (.name 1) (.val (.tup (.cons (.var 3) (.cons (.var 4) (.cons (.var 5) .nil))))) (.cons (.iff (.or_ (.cons (.not_ (.call "is_integer" (.cons (.var 1) .nil))) (.cons (.cmp .lt (.var 1) (.lit (.int 1))) (.cons (.cmp .gt (.var 1) (.lit (.int 3))) .nil)))) (.cons (.ret (.lit (.bl false)))
 .nil) .nil)
 .nil))
 (.cons (.iff (.or_ (.cons (.not_ (.call "is_word" (.cons (.var 6) (.cons (.gl "SENDS") .nil)))) (.cons (.not_ (.isi (.var 7) .bool)) (.cons (.not_ (.call "is_word" (.cons (.var 8) (.cons (.gl "LOOKS") .nil)))) .nil)))) (.cons (.ret (.lit (.bl false)))
 .nil) .nil)
 (.cons (.iff (.or_ (.cons (.not_ (.isi (.var 9) .tuple)) (.cons (.cmp .gt (.blt .len (.cons (.var 9) .nil)) (.lit (.int 3))) .nil))) (.cons (.ret (.lit (.bl false)))
 .nil) .nil)
 (.cons (.for_ (.name 2) (.val (.var 9)) (.cons (.iff (.or_ (.cons (.not_ (.call "is_ascending" (.cons (.var 2) (.cons (.var 4) .nil)))) (.cons (.cmp .eq (.var 2) (.tup .nil)) .nil))) (.cons (.ret (.lit (.bl false)))
 .nil) .nil)
 .nil))
 (.cons (.ret (.and_ (.cons (.call "is_ascending" (.cons (.var 10) (.cons (.bin .mul (.var 3) (.var 4)) .nil))) (.cons (.cmp .le (.blt .len (.cons (.var 10) .nil)) (.lit (.int 2))) .nil))))
 .nil)))))))
def df_is_rule : Df := ⟨"is_rule", 1, 11, b_is_rule⟩
def b_need_rule : Ss :=
 (.cons (.iff (.not_ (.call "is_rule" (.cons (.var 0) .nil))) (.cons .nope
 .nil) .nil)
 .nil)
def df_need_rule : Df := ⟨"need_rule", 1, 1, b_need_rule⟩
def b_show_numbers : Ss :=
 (.cons (.ret (.or_ (.cons (.mth (.lit (.str ",")) .join (.cons (.lc (.blt .str (.cons (.var 1) .nil)) (.name 1) (.val (.var 0)) .nil [("number", 1)]) .nil)) (.cons (.lit (.str "-")) .nil))))
 .nil)
def df_show_numbers : Df := ⟨"show_numbers", 1, 2, b_show_numbers⟩
def b_joined_digits : Ss :=
 (.cons (.ret (.mth (.lit (.str "")) .join (.cons (.lc (.blt .str (.cons (.var 1) .nil)) (.name 1) (.val (.var 0)) .nil [("number", 1)]) .nil)))
 .nil)
def df_joined_digits : Df := ⟨"joined_digits", 1, 2, b_joined_digits⟩
def b_show_rule : Ss :=
 (.cons (.ex (.call "need_rule" (.cons (.var 0) .nil)))
 (.cons (.asg (.tup [(.name 2), (.name 3), (.name 4), (.name 5), (.name 6), (.name 7), (.name 8), (.name 9)]) (.var 0))
 (.cons (.asg (.name 1) (.lst (.cons (.blt .str (.cons (.var 2) .nil)) (.cons (.blt .str (.cons (.var 3) .nil)) (.cons (.blt .str (.cons (.var 4) .nil)) (.cons (.var 5) (.cons (.lit (.str "free")) (.cons (.var 7) .nil))))))))
 (.cons (.iff (.var 6) (.cons (.asgi (.var 1) (.lit (.int 4)) (.lit (.str "eager")))
 .nil) .nil)
 (.cons (.ex (.mth (.var 1) .append (.cons (.or_ (.cons (.mth (.lit (.str ",")) .join (.cons (.lc (.call "joined_digits" (.cons (.var 10) .nil)) (.name 10) (.val (.var 8)) .nil [("kind", 10)]) .nil)) (.cons (.lit (.str "-")) .nil))) .nil)))
 (.cons (.ex (.mth (.var 1) .append (.cons (.call "show_numbers" (.cons (.var 9) .nil)) .nil)))
 (.cons (.ret (.mth (.lit (.str " ")) .join (.cons (.var 1) .nil)))
 .nil)))))))
def df_show_rule : Df := ⟨"show_rule", 1, 11, b_show_rule⟩
def b_read_digit : Ss :=
 (.cons (.iff (.cmp .ne (.blt .len (.cons (.var 0) .nil)) (.lit (.int 1))) (.cons (.ret (.neg (.lit (.int 1))))
 .nil) .nil)
 (.cons (.ret (.mth (.gl "DIGITS") .find (.cons (.var 0) .nil)))
 .nil))
def df_read_digit : Df := ⟨"read_digit", 1, 1, b_read_digit⟩
def b_read_digits : Ss :=
 (.cons (.asg (.name 1) (.blt .tuple (.cons (.lc (.call "read_digit" (.cons (.var 2) .nil)) (.name 2) (.val (.var 0)) .nil [("text", 2)]) .nil)))
 (.cons (.iff (.not_ (.call "is_ascending" (.cons (.var 1) (.cons (.lit (.int 10)) .nil)))) (.cons (.ret (.lit .non))
 .nil) .nil)
 (.cons (.ret (.var 1))
 .nil)))
def df_read_digits : Df := ⟨"read_digits", 1, 3, b_read_digits⟩
def b_read_numbers : Ss :=
 (.cons (.iff (.cmp .eq (.var 0) (.lit (.str "-"))) (.cons (.ret (.tup .nil))
 .nil) .nil)
 (.cons (.ret (.call "read_digits" (.cons (.mth (.var 0) .split (.cons (.lit (.str ",")) .nil)) .nil)))
 .nil))
def df_read_numbers : Df := ⟨"read_numbers", 1, 1, b_read_numbers⟩
def b_read_kinds : Ss :=
 (.cons (.asg (.name 1) (.lst .nil))
 (.cons (.iff (.cmp .eq (.var 0) (.lit (.str "-"))) (.cons (.ret (.tup .nil))
 .nil) .nil)
 (.cons (.for_ (.name 2) (.val (.mth (.var 0) .split (.cons (.lit (.str ",")) .nil))) (.cons (.asg (.name 3) (.call "read_digits" (.cons (.blt .list (.cons (.var 2) .nil)) .nil)))
 (.cons (.iff (.or_ (.cons (.cmp .isN (.var 3) (.lit .non)) (.cons (.cmp .eq (.var 3) (.tup .nil)) .nil))) (.cons (.ret (.lit .non))
 .nil) .nil)
 (.cons (.ex (.mth (.var 1) .append (.cons (.var 3) .nil)))
 .nil))))
 (.cons (.ret (.blt .tuple (.cons (.var 1) .nil)))
 .nil))))
def df_read_kinds : Df := ⟨"read_kinds", 1, 4, b_read_kinds⟩
def b_read_rule : Ss :=
 (.cons (.iff (.not_ (.isi (.var 0) .str)) (.cons .nope
 .nil) .nil)
 (.cons (.asg (.name 1) (.mth (.var 0) .split (.cons (.lit (.str " ")) .nil)))
 (.cons (.iff (.or_ (.cons (.cmp .ne (.blt .len (.cons (.var 1) .nil)) (.lit (.int 8))) (.cons (.cmp .notin (.idx (.var 1) (.lit (.int 4))) (.tup (.cons (.lit (.str "eager")) (.cons (.lit (.str "free")) .nil)))) .nil))) (.cons .nope
 .nil) .nil)
 (.cons (.asg (.name 2) (.blt .tuple (.cons (.lc (.call "read_digit" (.cons (.var 4) .nil)) (.name 4) (.val (.slc (.var 1) .nil (.cons (.lit (.int 3)) .nil))) .nil [("part", 4)]) .nil)))
 (.cons (.asg (.name 3) (.bin .add (.var 2) (.tup (.cons (.idx (.var 1) (.lit (.int 3))) (.cons (.cmp .eq (.idx (.var 1) (.lit (.int 4))) (.lit (.str "eager"))) (.cons (.idx (.var 1) (.lit (.int 5))) (.cons (.call "read_kinds" (.cons (.idx (.var 1) (.lit (.int 6))) .nil)) (.cons (.call "read_numbers" (.cons (.idx (.var 1) (.lit (.int 7))) .nil)) .nil))))))))
 (.cons (.iff (.not_ (.call "is_rule" (.cons (.var 3) .nil))) (.cons .nope
 .nil) .nil)
 (.cons (.ret (.var 3))
 .nil)))))))
def df_read_rule : Df := ⟨"read_rule", 1, 5, b_read_rule⟩
def b__law_pool : Ss :=
 (.cons (.asg (.name 1) (.lit (.int 1000000000000000000)))
 (.cons (.asg (.name 2) (.lc (.blt .abs (.cons (.var 3) .nil)) (.name 3) (.val (.var 0)) .nil [("cell", 3)]))
 (.cons (.ret (.lst (.cons (.lc (.var 3) (.name 3) (.val (.var 2)) (.cons (.cmp .ge (.var 3) (.var 1)) .nil) [("cell", 3)]) (.cons (.lc (.var 3) (.name 3) (.val (.var 2)) (.cons (.cmp .lt (.var 3) (.var 1)) .nil) [("cell", 3)]) (.cons (.lit (.int 0)) .nil)))))
 .nil)))
def df__law_pool : Df := ⟨"_law_pool", 1, 4, b__law_pool⟩
def b__law_draw : Ss :=
 (.cons (.asgi (.var 0) (.lit (.int 2)) (.bin .add (.idx (.var 0) (.lit (.int 2))) (.lit (.int 1))))
 (.cons (.asg (.name 2) (.idx (.var 0) (.lit (.int 2))))
 (.cons (.asg (.name 3) (.idx (.var 0) (.lit (.int 0))))
 (.cons (.iff (.var 3) (.cons (.asg (.name 7) (.bin .mod (.blt .int (.cons (.idx (.var 3) (.lit (.int 0))) .nil)) (.var 1)))
 (.cons (.asgi (.var 3) (.lit (.int 0)) (.bin .fdiv (.idx (.var 3) (.lit (.int 0))) (.var 1)))
 (.cons (.iff (.cmp .eq (.idx (.var 3) (.lit (.int 0))) (.lit (.int 0))) (.cons (.ex (.mth (.var 3) .popAt (.cons (.lit (.int 0)) .nil)))
 .nil) .nil)
 (.cons (.ret (.var 7))
 .nil)))) .nil)
 (.cons (.asg (.name 4) (.idx (.var 0) (.lit (.int 1))))
 (.cons (.asg (.name 5) (.lit (.int 0)))
 (.cons (.iff (.var 4) (.cons (.asg (.name 5) (.idx (.var 4) (.bin .mod (.blt .int (.cons (.bin .add (.bin .mul (.lit (.int 7)) (.var 2)) (.bin .fdiv (.var 2) (.lit (.int 5)))) .nil)) (.blt .len (.cons (.var 4) .nil)))))
 .nil) .nil)
 (.cons (.asg (.name 6) (.bin .mod (.blt .int (.cons (.bin .add (.bin .add (.bin .mul (.var 5) (.lit (.int 48271))) (.bin .mul (.var 2) (.lit (.int 69621)))) (.lit (.int 12345))) .nil)) (.lit (.int 2147483647))))
 (.cons (.asg (.name 6) (.bin .mod (.blt .int (.cons (.bin .add (.bin .add (.bin .mul (.var 6) (.var 6)) (.bin .mul (.bin .mul (.var 2) (.var 2)) (.lit (.int 16807)))) (.var 5)) .nil)) (.lit (.int 2147483629))))
 (.cons (.asg (.name 6) (.bin .mod (.blt .int (.cons (.bin .add (.bin .mul (.bin .fdiv (.var 6) (.lit (.int 7))) (.bin .add (.bin .mod (.blt .int (.cons (.var 6) .nil)) (.lit (.int 65521))) (.lit (.int 3)))) (.var 2)) .nil)) (.lit (.int 2147483587))))
 (.cons (.ret (.bin .mod (.blt .int (.cons (.bin .fdiv (.var 6) (.lit (.int 16))) .nil)) (.var 1)))
 .nil)))))))))))
def df__law_draw : Df := ⟨"_law_draw", 2, 8, b__law_draw⟩
def b__law_ways : Ss :=
 (.cons (.asg (.name 2) (.bin .add (.lit (.int 1)) (.call "_law_draw" (.cons (.var 0) (.cons (.var 1) .nil)))))
 (.cons (.asg (.name 3) (.bin .add (.lit (.int 1)) (.call "_law_draw" (.cons (.var 0) (.cons (.lit (.int 3)) .nil)))))
 (.cons (.asg (.name 4) (.bin .add (.lit (.int 1)) (.call "_law_draw" (.cons (.var 0) (.cons (.lit (.int 3)) .nil)))))
 (.cons (.asg (.name 5) (.idx (.lst (.cons (.lit (.str "whole")) (.cons (.lit (.str "parts")) (.cons (.lit (.str "filled")) .nil)))) (.call "_law_draw" (.cons (.var 0) (.cons (.lit (.int 3)) .nil)))))
 (.cons (.asg (.name 6) (.cmp .eq (.call "_law_draw" (.cons (.var 0) (.cons (.lit (.int 3)) .nil))) (.lit (.int 1))))
 (.cons (.asg (.name 7) (.idx (.lst (.cons (.lit (.str "into")) (.cons (.lit (.str "past")) (.cons (.lit (.str "first")) .nil)))) (.call "_law_draw" (.cons (.var 0) (.cons (.lit (.int 3)) .nil)))))
 (.cons (.asg (.name 8) (.lst .nil))
 (.cons (.for_ (.name 9) (.rng1 (.call "_law_draw" (.cons (.var 0) (.cons (.lit (.int 4)) .nil)))) (.cons (.asg (.name 11) (.lc (.var 13) (.name 13) (.rng1 (.var 3)) (.cons (.cmp .eq (.call "_law_draw" (.cons (.var 0) (.cons (.lit (.int 2)) .nil))) (.lit (.int 0))) .nil) [("lane", 13)]))
 (.cons (.iff (.not_ (.var 11)) (.cons (.asg (.name 11) (.lst (.cons (.call "_law_draw" (.cons (.var 0) (.cons (.var 3) .nil))) .nil)))
 .nil) .nil)
 (.cons (.ex (.mth (.var 8) .append (.cons (.blt .tuple (.cons (.var 11) .nil)) .nil)))
 .nil))))
 (.cons (.asg (.name 10) (.lc (.var 12) (.name 12) (.rng1 (.bin .mul (.var 2) (.var 3))) (.cons (.cmp .eq (.call "_law_draw" (.cons (.var 0) (.cons (.lit (.int 3)) .nil))) (.lit (.int 0))) .nil) [("spot", 12)]))
 (.cons (.ret (.tup (.cons (.var 2) (.cons (.var 3) (.cons (.var 4) (.cons (.var 5) (.cons (.var 6) (.cons (.var 7) (.cons (.blt .tuple (.cons (.var 8) .nil)) (.cons (.blt .tuple (.cons (.slc (.var 10) .nil (.cons (.lit (.int 2)) .nil)) .nil)) .nil))))))))))
 .nil))))))))))
def df__law_ways : Df := ⟨"_law_ways", 2, 14, b__law_ways⟩
def b__law_same : Ss :=
 (.cons (.iff (.cmp .isN (.var 1) (.lit .non)) (.cons (.ret (.cmp .isN (.var 0) (.lit .non)))
 .nil) .nil)
 (.cons (.iff (.or_ (.cons (.isi (.var 1) .bool) (.cons (.isi (.var 1) .str) .nil))) (.cons (.ret (.and_ (.cons (.cmp .eq (.isi (.var 0) .bool) (.isi (.var 1) .bool)) (.cons (.isis (.var 0) [.bool, .str]) (.cons (.cmp .eq (.var 0) (.var 1)) .nil)))))
 .nil) .nil)
 (.cons (.iff (.isi (.var 1) .int) (.cons (.ret (.and_ (.cons (.isi (.var 0) .int) (.cons (.not_ (.isi (.var 0) .bool)) (.cons (.cmp .eq (.var 0) (.var 1)) .nil)))))
 .nil) .nil)
 (.cons (.iff (.and_ (.cons (.isi (.var 1) .tuple) (.cons (.not_ (.isi (.var 0) .tuple)) .nil))) (.cons (.ret (.lit (.bl false)))
 .nil) .nil)
 (.cons (.iff (.and_ (.cons (.isi (.var 1) .list) (.cons (.not_ (.isi (.var 0) .list)) .nil))) (.cons (.ret (.lit (.bl false)))
 .nil) .nil)
 (.cons (.iff (.cmp .ne (.blt .len (.cons (.var 0) .nil)) (.blt .len (.cons (.var 1) .nil))) (.cons (.ret (.lit (.bl false)))
 .nil) .nil)
 (.cons (.for_ (.tup [(.name 2), (.name 3)]) (.zip (.var 0) (.var 1)) (.cons (.iff (.not_ (.call "_law_same" (.cons (.var 2) (.cons (.var 3) .nil)))) (.cons (.ret (.lit (.bl false)))
 .nil) .nil)
 .nil))
 (.cons (.ret (.lit (.bl true)))
 .nil))))))))
def df__law_same : Df := ⟨"_law_same", 2, 4, b__law_same⟩
def b__law_commas : Ss :=
 (.cons (.iff (.not_ (.var 0)) (.cons (.ret (.lit (.str "-")))
 .nil) .nil)
 (.cons (.ret (.mth (.lit (.str ",")) .join (.cons (.lc (.blt .str (.cons (.var 1) .nil)) (.name 1) (.val (.var 0)) .nil [("k", 1)]) .nil)))
 .nil))
def df__law_commas : Df := ⟨"_law_commas", 1, 2, b__law_commas⟩
def b__law_glued : Ss :=
 (.cons (.ret (.mth (.lit (.str "")) .join (.cons (.lc (.blt .str (.cons (.var 1) .nil)) (.name 1) (.val (.var 0)) .nil [("k", 1)]) .nil)))
 .nil)
def df__law_glued : Df := ⟨"_law_glued", 1, 2, b__law_glued⟩
def b__law_ways_text : Ss :=
 (.cons (.asg (.name 1) (.lst (.cons (.blt .str (.cons (.idx (.var 0) (.lit (.int 0))) .nil)) (.cons (.blt .str (.cons (.idx (.var 0) (.lit (.int 1))) .nil)) (.cons (.blt .str (.cons (.idx (.var 0) (.lit (.int 2))) .nil)) (.cons (.idx (.var 0) (.lit (.int 3))) (.cons (.lit (.str "free")) (.cons (.idx (.var 0) (.lit (.int 5))) (.cons (.lit (.str "-")) (.cons (.call "_law_commas" (.cons (.idx (.var 0) (.lit (.int 7))) .nil)) .nil))))))))))
 (.cons (.iff (.idx (.var 0) (.lit (.int 4))) (.cons (.asgi (.var 1) (.lit (.int 4)) (.lit (.str "eager")))
 .nil) .nil)
 (.cons (.iff (.idx (.var 0) (.lit (.int 6))) (.cons (.asgi (.var 1) (.lit (.int 6)) (.mth (.lit (.str ",")) .join (.cons (.lc (.call "_law_glued" (.cons (.var 2) .nil)) (.name 2) (.val (.idx (.var 0) (.lit (.int 6)))) .nil [("kind", 2)]) .nil)))
 .nil) .nil)
 (.cons (.ret (.mth (.lit (.str " ")) .join (.cons (.var 1) .nil)))
 .nil))))
def df__law_ways_text : Df := ⟨"_law_ways_text", 1, 3, b__law_ways_text⟩
def b_law : Ss :=
 (.cons (.asg (.name 1) (.call "_law_pool" (.cons (.var 0) .nil)))
 (.cons (.asg (.name 2) (.call "_law_ways" (.cons (.var 1) (.cons (.lit (.int 3)) .nil))))
 (.cons (.asg (.name 3) (.call "_law_ways" (.cons (.var 1) (.cons (.lit (.int 3)) .nil))))
 (.cons (.for_ (.name 4) (.val (.lst (.cons (.var 2) (.cons (.var 3) (.cons (.var 2) .nil))))) (.cons (.asg (.name 5) (.call "_law_ways_text" (.cons (.var 4) .nil)))
 (.cons (.iff (.or_ (.cons (.not_ (.call "_law_same" (.cons (.call "show_rule" (.cons (.var 4) .nil)) (.cons (.var 5) .nil)))) (.cons (.not_ (.call "_law_same" (.cons (.call "read_rule" (.cons (.var 5) .nil)) (.cons (.var 4) .nil)))) .nil))) (.cons (.ret (.lit (.bl false)))
 .nil) .nil)
 .nil)))
 (.cons (.ret (.lit (.bl true)))
 .nil)))))
def df_law : Df := ⟨"law", 1, 6, b_law⟩
def b_place_count : Ss :=
 (.cons (.ret (.bin .mul (.idx (.var 0) (.lit (.int 0))) (.idx (.var 0) (.lit (.int 1)))))
 .nil)
def df_place_count : Df := ⟨"place_count", 1, 1, b_place_count⟩
def b_is_operation : Ss :=
 (.cons (.iff (.or_ (.cons (.not_ (.isi (.var 1) .tuple)) (.cons (.cmp .notin (.blt .len (.cons (.var 1) .nil)) (.tup (.cons (.lit (.int 1)) (.cons (.lit (.int 2)) .nil)))) .nil))) (.cons (.ret (.lit (.bl false)))
 .nil) .nil)
 (.cons (.iff (.cmp .eq (.blt .len (.cons (.var 1) .nil)) (.lit (.int 1))) (.cons (.ret (.call "is_word" (.cons (.idx (.var 1) (.lit (.int 0))) (.cons (.tup (.cons (.lit (.str "pass")) .nil)) .nil))))
 .nil) .nil)
 (.cons (.iff (.or_ (.cons (.not_ (.call "is_word" (.cons (.idx (.var 1) (.lit (.int 0))) (.cons (.gl "PLACED") .nil)))) (.cons (.not_ (.call "is_integer" (.cons (.idx (.var 1) (.lit (.int 1))) .nil))) .nil))) (.cons (.ret (.lit (.bl false)))
 .nil) .nil)
 (.cons (.ret (.chain .le .lt (.lit (.int 0)) (.idx (.var 1) (.lit (.int 1))) (.call "place_count" (.cons (.var 0) .nil))))
 .nil))))
def df_is_operation : Df := ⟨"is_operation", 2, 2, b_is_operation⟩
def b_is_row : Ss :=
 (.cons (.iff (.or_ (.cons (.not_ (.isi (.var 1) .tuple)) (.cons (.cmp .ne (.blt .len (.cons (.var 1) .nil)) (.lit (.int 3))) .nil))) (.cons (.ret (.lit (.bl false)))
 .nil) .nil)
 (.cons (.asg (.tup [(.name 3), (.name 4), (.name 5)]) (.var 1))
 (.cons (.iff (.or_ (.cons (.not_ (.call "is_operation" (.cons (.var 0) (.cons (.var 3) .nil)))) (.cons (.not_ (.call "is_ascending" (.cons (.var 4) (.cons (.blt .len (.cons (.idx (.var 0) (.lit (.int 6))) .nil)) .nil)))) .nil))) (.cons (.ret (.lit (.bl false)))
 .nil) .nil)
 (.cons (.ret (.call "is_ascending" (.cons (.var 5) (.cons (.var 2) .nil))))
 .nil))))
def df_is_row : Df := ⟨"is_row", 3, 6, b_is_row⟩
def b_is_program : Ss :=
 (.cons (.ex (.call "need_rule" (.cons (.var 0) .nil)))
 (.cons (.iff (.or_ (.cons (.not_ (.isi (.var 1) .tuple)) (.cons (.cmp .lt (.blt .len (.cons (.var 1) .nil)) (.lit (.int 1))) (.cons (.cmp .gt (.blt .len (.cons (.var 1) .nil)) (.lit (.int 8))) .nil)))) (.cons (.ret (.lit (.bl false)))
 .nil) .nil)
 (.cons (.for_ (.name 2) (.val (.var 1)) (.cons (.iff (.not_ (.call "is_row" (.cons (.var 0) (.cons (.var 2) (.cons (.blt .len (.cons (.var 1) .nil)) .nil))))) (.cons (.ret (.lit (.bl false)))
 .nil) .nil)
 .nil))
 (.cons (.ret (.lit (.bl true)))
 .nil))))
def df_is_program : Df := ⟨"is_program", 2, 3, b_is_program⟩
def b_need_program : Ss :=
 (.cons (.iff (.not_ (.call "is_program" (.cons (.var 0) (.cons (.var 1) .nil)))) (.cons .nope
 .nil) .nil)
 .nil)
def df_need_program : Df := ⟨"need_program", 2, 2, b_need_program⟩
def b_show_row : Ss :=
 (.cons (.asg (.tup [(.name 2), (.name 3), (.name 4)]) (.var 0))
 (.cons (.asg (.name 1) (.lc (.blt .str (.cons (.var 5) .nil)) (.name 5) (.val (.var 2)) .nil [("part", 5)]))
 (.cons (.ret (.mth (.lit (.str " ")) .join (.cons (.bin .add (.var 1) (.lst (.cons (.call "show_numbers" (.cons (.var 3) .nil)) (.cons (.lit (.str ">")) (.cons (.call "show_numbers" (.cons (.var 4) .nil)) .nil))))) .nil)))
 .nil)))
def df_show_row : Df := ⟨"show_row", 1, 6, b_show_row⟩
def b_show_program : Ss :=
 (.cons (.ex (.call "need_rule" (.cons (.var 0) .nil)))
 (.cons (.ex (.call "need_program" (.cons (.var 0) (.cons (.var 1) .nil))))
 (.cons (.ret (.mth (.lit (.str "\n")) .join (.cons (.lc (.call "show_row" (.cons (.var 2) .nil)) (.name 2) (.val (.var 1)) .nil [("row", 2)]) .nil)))
 .nil)))
def df_show_program : Df := ⟨"show_program", 2, 3, b_show_program⟩
def b_read_op : Ss :=
 (.cons (.iff (.cmp .eq (.var 1) (.lst (.cons (.lit (.str "pass")) .nil))) (.cons (.ret (.tup (.cons (.lit (.str "pass")) .nil)))
 .nil) .nil)
 (.cons (.iff (.or_ (.cons (.cmp .ne (.blt .len (.cons (.var 1) .nil)) (.lit (.int 2))) (.cons (.cmp .notin (.idx (.var 1) (.lit (.int 0))) (.gl "PLACED")) .nil))) (.cons (.ret (.lit .non))
 .nil) .nil)
 (.cons (.asg (.name 2) (.call "read_digit" (.cons (.idx (.var 1) (.lit (.int 1))) .nil)))
 (.cons (.iff (.or_ (.cons (.cmp .lt (.var 2) (.lit (.int 0))) (.cons (.cmp .ge (.var 2) (.call "place_count" (.cons (.var 0) .nil))) .nil))) (.cons (.ret (.lit .non))
 .nil) .nil)
 (.cons (.ret (.tup (.cons (.idx (.var 1) (.lit (.int 0))) (.cons (.var 2) .nil))))
 .nil)))))
def df_read_op : Df := ⟨"read_op", 2, 3, b_read_op⟩
def b_read_row : Ss :=
 (.cons (.asg (.name 2) (.mth (.var 1) .split (.cons (.lit (.str " ")) .nil)))
 (.cons (.iff (.or_ (.cons (.cmp .lt (.blt .len (.cons (.var 2) .nil)) (.lit (.int 4))) (.cons (.cmp .ne (.idx (.var 2) (.neg (.lit (.int 2)))) (.lit (.str ">"))) .nil))) (.cons (.ret (.lit .non))
 .nil) .nil)
 (.cons (.asg (.name 3) (.call "read_op" (.cons (.var 0) (.cons (.slc (.var 2) .nil (.cons (.neg (.lit (.int 3))) .nil)) .nil))))
 (.cons (.asg (.name 4) (.call "read_numbers" (.cons (.idx (.var 2) (.neg (.lit (.int 3)))) .nil)))
 (.cons (.asg (.name 5) (.call "read_numbers" (.cons (.idx (.var 2) (.neg (.lit (.int 1)))) .nil)))
 (.cons (.iff (.or_ (.cons (.cmp .isN (.var 3) (.lit .non)) (.cons (.cmp .isN (.var 4) (.lit .non)) (.cons (.cmp .isN (.var 5) (.lit .non)) (.cons (.not_ (.call "is_ascending" (.cons (.var 4) (.cons (.blt .len (.cons (.idx (.var 0) (.lit (.int 6))) .nil)) .nil)))) .nil))))) (.cons (.ret (.lit .non))
 .nil) .nil)
 (.cons (.ret (.tup (.cons (.var 3) (.cons (.var 4) (.cons (.var 5) .nil)))))
 .nil)))))))
def df_read_row : Df := ⟨"read_row", 2, 6, b_read_row⟩
def b_read_program : Ss :=
 (.cons (.ex (.call "need_rule" (.cons (.var 0) .nil)))
 (.cons (.iff (.not_ (.isi (.var 1) .str)) (.cons .nope
 .nil) .nil)
 (.cons (.asg (.name 2) (.lst .nil))
 (.cons (.for_ (.tup [(.name 3), (.name 4)]) (.enum (.mth (.var 1) .split (.cons (.lit (.str "\n")) .nil))) (.cons (.asg (.name 5) (.call "read_row" (.cons (.var 0) (.cons (.var 4) .nil))))
 (.cons (.iff (.or_ (.cons (.cmp .isN (.var 5) (.lit .non)) (.cons (.cmp .ge (.var 3) (.gl "MOST_LINES")) .nil))) (.cons .nope
 .nil) .nil)
 (.cons (.ex (.mth (.var 2) .append (.cons (.var 5) .nil)))
 .nil))))
 (.cons (.for_ (.tup [(.name 3), (.name 5)]) (.enum (.var 2)) (.cons (.iff (.not_ (.call "is_ascending" (.cons (.idx (.var 5) (.lit (.int 2))) (.cons (.blt .len (.cons (.var 2) .nil)) .nil)))) (.cons .nope
 .nil) .nil)
 .nil))
 (.cons (.ret (.blt .tuple (.cons (.var 2) .nil)))
 .nil))))))
def df_read_program : Df := ⟨"read_program", 2, 6, b_read_program⟩
def b__law_row_text : Ss :=
 (.cons (.asg (.name 1) (.idx (.idx (.var 0) (.lit (.int 0))) (.lit (.int 0))))
 (.cons (.iff (.cmp .eq (.blt .len (.cons (.idx (.var 0) (.lit (.int 0))) .nil)) (.lit (.int 2))) (.cons (.asg (.name 1) (.bin .add (.bin .add (.var 1) (.lit (.str " "))) (.blt .str (.cons (.idx (.idx (.var 0) (.lit (.int 0))) (.lit (.int 1))) .nil))))
 .nil) .nil)
 (.cons (.ret (.bin .add (.bin .add (.bin .add (.bin .add (.var 1) (.lit (.str " "))) (.call "_law_commas" (.cons (.idx (.var 0) (.lit (.int 1))) .nil))) (.lit (.str " > "))) (.call "_law_commas" (.cons (.idx (.var 0) (.lit (.int 2))) .nil))))
 .nil)))
def df__law_row_text : Df := ⟨"_law_row_text", 1, 2, b__law_row_text⟩
def b_law_2 : Ss :=
 (.cons (.asg (.name 1) (.call "_law_pool" (.cons (.var 0) .nil)))
 (.cons (.asg (.name 2) (.call "_law_ways" (.cons (.var 1) (.cons (.lit (.int 3)) .nil))))
 (.cons (.asg (.name 3) (.call "_law_code" (.cons (.var 1) (.cons (.var 2) (.cons (.lit (.int 8)) .nil)))))
 (.cons (.asg (.name 4) (.call "_law_code" (.cons (.var 1) (.cons (.var 2) (.cons (.lit (.int 8)) .nil)))))
 (.cons (.iff (.cmp .eq (.call "_law_draw" (.cons (.var 1) (.cons (.lit (.int 4)) .nil))) (.lit (.int 0))) (.cons (.asg (.name 6) (.call "_law_draw" (.cons (.var 1) (.cons (.blt .len (.cons (.var 3) .nil)) .nil))))
 (.cons (.asg (.name 7) (.tup (.cons (.idx (.idx (.var 3) (.var 6)) (.lit (.int 0))) (.cons (.tupRg1 (.blt .len (.cons (.idx (.var 2) (.lit (.int 6))) .nil))) (.cons (.tupRg1 (.blt .len (.cons (.var 3) .nil))) .nil)))))
 (.cons (.asg (.name 3) (.bin .add (.bin .add (.slc (.var 3) .nil (.cons (.var 6) .nil)) (.tup (.cons (.var 7) .nil))) (.slc (.var 3) (.cons (.bin .add (.var 6) (.lit (.int 1))) .nil) .nil)))
 .nil))) .nil)
 (.cons (.for_ (.name 5) (.val (.lst (.cons (.var 3) (.cons (.var 4) (.cons (.var 3) .nil))))) (.cons (.asg (.name 8) (.mth (.lit (.str "\n")) .join (.cons (.lc (.call "_law_row_text" (.cons (.var 7) .nil)) (.name 7) (.val (.var 5)) .nil [("row", 7)]) .nil)))
 (.cons (.iff (.or_ (.cons (.not_ (.call "_law_same" (.cons (.call "show_program" (.cons (.var 2) (.cons (.var 5) .nil))) (.cons (.var 8) .nil)))) (.cons (.not_ (.call "_law_same" (.cons (.call "read_program" (.cons (.var 2) (.cons (.var 8) .nil))) (.cons (.var 5) .nil)))) .nil))) (.cons (.ret (.lit (.bl false)))
 .nil) .nil)
 .nil)))
 (.cons (.ret (.lit (.bl true)))
 .nil)))))))
def df_law_2 : Df := ⟨"law", 1, 9, b_law_2⟩
def b_show_step : Ss :=
 (.cons (.iff (.cmp .eq (.idx (.var 0) (.lit (.int 0))) (.lit (.str "send"))) (.cons (.ret (.fstr (.cons (.lit (.str "send ")) (.cons (.fmt (.idx (.var 0) (.lit (.int 1)))) (.cons (.lit (.str " ")) (.cons (.fmt (.call "joined_digits" (.cons (.idx (.var 0) (.lit (.int 2))) .nil))) .nil))))))
 .nil) .nil)
 (.cons (.iff (.cmp .lt (.idx (.var 0) (.lit (.int 1))) (.lit (.int 0))) (.cons (.ret (.lit (.str "do .")))
 .nil) .nil)
 (.cons (.ret (.fstr (.cons (.lit (.str "do ")) (.cons (.fmt (.idx (.var 0) (.lit (.int 1)))) .nil))))
 .nil)))
def df_show_step : Df := ⟨"show_step", 1, 1, b_show_step⟩
def b_show_run : Ss :=
 (.cons (.ret (.mth (.lit (.str "; ")) .join (.cons (.lc (.call "show_step" (.cons (.var 1) .nil)) (.name 1) (.val (.var 0)) .nil [("step", 1)]) .nil)))
 .nil)
def df_show_run : Df := ⟨"show_run", 1, 2, b_show_run⟩
def b_read_step : Ss :=
 (.cons (.asg (.name 1) (.mth (.var 0) .split (.cons (.lit (.str " ")) .nil)))
 (.cons (.iff (.cmp .eq (.var 1) (.lst (.cons (.lit (.str "do")) (.cons (.lit (.str ".")) .nil)))) (.cons (.ret (.tup (.cons (.lit (.str "do")) (.cons (.neg (.lit (.int 1))) .nil))))
 .nil) .nil)
 (.cons (.iff (.and_ (.cons (.cmp .eq (.blt .len (.cons (.var 1) .nil)) (.lit (.int 2))) (.cons (.cmp .eq (.idx (.var 1) (.lit (.int 0))) (.lit (.str "do"))) (.cons (.cmp .ge (.call "read_digit" (.cons (.idx (.var 1) (.lit (.int 1))) .nil)) (.lit (.int 0))) .nil)))) (.cons (.ret (.tup (.cons (.lit (.str "do")) (.cons (.call "read_digit" (.cons (.idx (.var 1) (.lit (.int 1))) .nil)) .nil))))
 .nil) .nil)
 (.cons (.iff (.or_ (.cons (.cmp .ne (.blt .len (.cons (.var 1) .nil)) (.lit (.int 3))) (.cons (.cmp .ne (.idx (.var 1) (.lit (.int 0))) (.lit (.str "send"))) (.cons (.cmp .lt (.call "read_digit" (.cons (.idx (.var 1) (.lit (.int 1))) .nil)) (.lit (.int 0))) .nil)))) (.cons (.ret (.lit .non))
 .nil) .nil)
 (.cons (.asg (.name 2) (.call "read_digits" (.cons (.blt .list (.cons (.idx (.var 1) (.lit (.int 2))) .nil)) .nil)))
 (.cons (.iff (.or_ (.cons (.cmp .isN (.var 2) (.lit .non)) (.cons (.cmp .eq (.var 2) (.tup .nil)) .nil))) (.cons (.ret (.lit .non))
 .nil) .nil)
 (.cons (.ret (.tup (.cons (.lit (.str "send")) (.cons (.call "read_digit" (.cons (.idx (.var 1) (.lit (.int 1))) .nil)) (.cons (.var 2) .nil)))))
 .nil)))))))
def df_read_step : Df := ⟨"read_step", 1, 3, b_read_step⟩
def b_read_run : Ss :=
 (.cons (.iff (.not_ (.isi (.var 0) .str)) (.cons .nope
 .nil) .nil)
 (.cons (.iff (.cmp .eq (.var 0) (.lit (.str ""))) (.cons (.ret (.lst .nil))
 .nil) .nil)
 (.cons (.asg (.name 1) (.lst .nil))
 (.cons (.for_ (.name 2) (.val (.mth (.var 0) .split (.cons (.lit (.str "; ")) .nil))) (.cons (.asg (.name 3) (.call "read_step" (.cons (.var 2) .nil)))
 (.cons (.iff (.or_ (.cons (.cmp .isN (.var 3) (.lit .non)) (.cons (.cmp .ge (.blt .len (.cons (.var 1) .nil)) (.gl "MOST_STEPS")) .nil))) (.cons .nope
 .nil) .nil)
 (.cons (.ex (.mth (.var 1) .append (.cons (.var 3) .nil)))
 .nil))))
 (.cons (.ret (.var 1))
 .nil)))))
def df_read_run : Df := ⟨"read_run", 1, 4, b_read_run⟩
def b__law_step_text : Ss :=
 (.cons (.iff (.cmp .eq (.idx (.var 0) (.lit (.int 0))) (.lit (.str "send"))) (.cons (.ret (.bin .add (.bin .add (.bin .add (.lit (.str "send ")) (.blt .str (.cons (.idx (.var 0) (.lit (.int 1))) .nil))) (.lit (.str " "))) (.call "_law_glued" (.cons (.idx (.var 0) (.lit (.int 2))) .nil))))
 .nil) .nil)
 (.cons (.iff (.cmp .eq (.idx (.var 0) (.lit (.int 1))) (.neg (.lit (.int 1)))) (.cons (.ret (.lit (.str "do .")))
 .nil) .nil)
 (.cons (.ret (.bin .add (.lit (.str "do ")) (.blt .str (.cons (.idx (.var 0) (.lit (.int 1))) .nil))))
 .nil)))
def df__law_step_text : Df := ⟨"_law_step_text", 1, 1, b__law_step_text⟩
def b__law_any_step : Ss :=
 (.cons (.iff (.cmp .eq (.call "_law_draw" (.cons (.var 0) (.cons (.lit (.int 2)) .nil))) (.lit (.int 0))) (.cons (.ret (.tup (.cons (.lit (.str "do")) (.cons (.bin .sub (.call "_law_draw" (.cons (.var 0) (.cons (.lit (.int 11)) .nil))) (.lit (.int 1))) .nil))))
 .nil) .nil)
 (.cons (.asg (.name 1) (.call "_law_draw" (.cons (.var 0) (.cons (.lit (.int 10)) .nil))))
 (.cons (.asg (.name 2) (.call "_law_draw" (.cons (.var 0) (.cons (.lit (.int 10)) .nil))))
 (.cons (.asg (.name 3) (.lc (.var 4) (.name 4) (.rng2 (.bin .add (.var 2) (.lit (.int 1))) (.lit (.int 10))) (.cons (.cmp .eq (.call "_law_draw" (.cons (.var 0) (.cons (.lit (.int 3)) .nil))) (.lit (.int 0))) .nil) [("k", 4)]))
 (.cons (.ret (.tup (.cons (.lit (.str "send")) (.cons (.var 1) (.cons (.blt .tuple (.cons (.bin .add (.lst (.cons (.var 2) .nil)) (.var 3)) .nil)) .nil)))))
 .nil)))))
def df__law_any_step : Df := ⟨"_law_any_step", 1, 5, b__law_any_step⟩
def b_law_3 : Ss :=
 (.cons (.asg (.name 1) (.call "_law_pool" (.cons (.var 0) .nil)))
 (.cons (.asg (.name 2) (.call "_law_draw" (.cons (.var 1) (.cons (.lit (.int 41)) .nil))))
 (.cons (.asg (.name 3) (.lc (.call "_law_any_step" (.cons (.var 1) .nil)) (.name 8) (.rng1 (.var 2)) .nil [("k", 8)]))
 (.cons (.iff (.cmp .eq (.call "_law_draw" (.cons (.var 1) (.cons (.lit (.int 8)) .nil))) (.lit (.int 0))) (.cons (.asg (.name 7) (.call "_law_draw" (.cons (.var 1) (.cons (.bin .sub (.lit (.int 1001)) (.var 2)) .nil))))
 (.cons (.asg (.name 3) (.bin .add (.var 3) (.lc (.tup (.cons (.lit (.str "do")) (.cons (.bin .fdiv (.var 2) (.lit (.int 5))) .nil))) (.name 8) (.rng1 (.var 7)) .nil [("k", 8)])))
 .nil)) .nil)
 (.cons (.asg (.name 4) (.mth (.lit (.str "; ")) .join (.cons (.lc (.call "_law_step_text" (.cons (.var 9) .nil)) (.name 9) (.val (.var 3)) .nil [("step", 9)]) .nil)))
 (.cons (.asg (.name 5) (.blt .list (.cons (.var 3) .nil)))
 (.cons (.iff (.or_ (.cons (.not_ (.call "_law_same" (.cons (.call "show_run" (.cons (.var 5) .nil)) (.cons (.var 4) .nil)))) (.cons (.cmp .ne (.var 5) (.var 3)) .nil))) (.cons (.ret (.lit (.bl false)))
 .nil) .nil)
 (.cons (.asg (.name 6) (.call "read_run" (.cons (.var 4) .nil)))
 (.cons (.iff (.not_ (.call "_law_same" (.cons (.var 6) (.cons (.var 3) .nil)))) (.cons (.ret (.lit (.bl false)))
 .nil) .nil)
 (.cons (.ex (.mth (.var 6) .append (.cons (.tup (.cons (.lit (.str "do")) (.cons (.lit (.int 0)) .nil))) .nil)))
 (.cons (.ex (.mth (.var 6) .reverse .nil))
 (.cons (.ret (.and_ (.cons (.call "_law_same" (.cons (.call "read_run" (.cons (.var 4) .nil)) (.cons (.var 3) .nil))) (.cons (.call "_law_same" (.cons (.call "show_run" (.cons (.var 5) .nil)) (.cons (.var 4) .nil))) .nil))))
 .nil))))))))))))
def df_law_3 : Df := ⟨"law", 1, 10, b_law_3⟩
end My.Lib

/-! The operations' rules, two-way. -/
namespace My
open PySem PySem.Spec PyProof.Rows L2
theorem wp_fun {α : Type} {m : M α} {S : Store} {Q : α → Store → Prop} {P : Prop} (h1 : ∀ a S', m S = .ok a S' → Q a S' → P) (h2 : P → Wp m S Q) : Wp m S Q ↔ P := ⟨fun ⟨a, S', e, q⟩ => h1 a S' e q, h2⟩
section
variable {S : Store} {Q : D → Store → Prop}
theorem wx_mul {i j : Int} : Wp (bopF .mul (.int i) (.int j)) S Q ↔ i.natAbs.log2 + j.natAbs.log2 < 1000000 ∧ Q (.int (i * j)) S := by
  by_cases h : i.natAbs.log2 + j.natAbs.log2 < 1000000
  · rw [wp_mul h]; simp [h]
  · refine wp_fun (fun a S' e q => ?_) fun z => (h z.1).elim
    simp only [bopF, if_neg h] at e; cases e
theorem wx_fdiv {i j : Int} : Wp (bopF .fdiv (.int i) (.int j)) S Q ↔ (0 < j ∧ j.natAbs.log2 < 9000) ∧ Q (.int (i / j)) S := by
  by_cases h : 0 < j ∧ j.natAbs.log2 < 9000
  · rw [wp_fdiv h]; simp [h]
  · refine wp_fun (fun a S' e q => ?_) fun z => (h z.1).elim
    simp only [bopF, if_neg h] at e; cases e
theorem wx_mod {i j : Int} : Wp (bopF .mod (.int i) (.int j)) S Q ↔ 0 < j ∧ Q (.int (i % j)) S := by
  by_cases h : 0 < j
  · rw [wp_mod h]; simp [h]
  · refine wp_fun (fun a S' e q => ?_) fun z => (h z.1).elim
    simp only [bopF, if_neg h] at e; cases e
theorem wx_addS {x y : Str} : Wp (bopF .add (.str x) (.str y)) S Q ↔ x.length + y.length ≤ sizeLine ∧ Q (.str (x ++ y)) S := by
  by_cases h : x.length + y.length ≤ sizeLine
  · rw [wp_addS h]; simp [h]
  · refine wp_fun (fun a S' e q => ?_) fun z => (h z.1).elim
    simp only [bopF, if_neg h] at e; cases e
theorem wx_addT {x y : List D} : Wp (bopF .add (.tup x) (.tup y)) S Q ↔ x.length + y.length ≤ sizeLine ∧ Q (.tup (x ++ y)) S := by
  by_cases h : x.length + y.length ≤ sizeLine
  · rw [wp_addT h]; simp [h]
  · refine wp_fun (fun a S' e q => ?_) fun z => (h z.1).elim
    simp only [bopF, if_neg h] at e; cases e
theorem wx_idxT {xs : List D} {k : Int} : Wp (idxF (.tup xs) (.int k)) S Q ↔ ∃ d, atI xs k = some d ∧ Q d S := by
  refine wp_fun (fun a S' e q => ?_) fun ⟨d, h, q⟩ => (wp_idxT h).mpr q
  simp only [idxF] at e
  split at e
  · cases e; exact ⟨_, by assumption, q⟩
  · cases e
theorem wx_idxL {n : Nat} {k : Int} : Wp (idxF (.ref n) (.int k)) S Q ↔ ∃ xs, rdL S n = some xs ∧ ∃ d, atI xs k = some d ∧ Q d S := by
  refine wp_fun (fun a S' e q => ?_) fun ⟨xs, h1, d, h, q⟩ => (wp_idxL h1 h).mpr q
  simp only [idxF] at e
  split at e
  · rename_i d he
    cases e
    obtain ⟨xs, h1, h2⟩ := Option.bind_eq_some_iff.mp he
    exact ⟨xs, h1, _, h2, q⟩
  · cases e
theorem wx_int {i : Int} : Wp (bltF .int [.int i]) S Q ↔ Q (.int i) S := wp_okf rfl
theorem wx_abs {i : Int} : Wp (bltF .abs [.int i]) S Q ↔ Q (.int (if i < 0 then -i else i)) S := wp_okf rfl
theorem wx_lenL {n : Nat} : Wp (bltF .len [.ref n]) S Q ↔ ∃ xs, rdL S n = some xs ∧ Q (.int xs.length) S := by
  refine wp_fun (fun a S' e q => ?_) fun ⟨xs, h, q⟩ => ⟨_, _, by simp only [bltF, one, blt1, lenF, h], q⟩
  simp only [bltF, one, blt1, lenF] at e
  split at e
  · rename_i xs h; cases e; exact ⟨xs, h, q⟩
  · cases e
theorem wx_lenT {xs : List D} : Wp (bltF .len [.tup xs]) S Q ↔ Q (.int xs.length) S := wp_okf rfl
theorem wx_lenS {x : Str} : Wp (bltF .len [.str x]) S Q ↔ x.length ≤ sizeLine ∧ Q (.int x.length) S := by
  refine wp_fun (fun a S' e q => ?_) fun ⟨h, q⟩ => ⟨_, _, by simp only [bltF, one, blt1, lenF, if_pos h], q⟩
  simp only [bltF, one, blt1, lenF] at e
  split at e
  · rename_i h; cases e; exact ⟨h, q⟩
  · cases e
theorem wx_strI {i : Int} : Wp (bltF .str [.int i]) S Q ↔ i.natAbs.log2 < 1920 ∧ Q (.str (Str.ofString (toString i))) S := by
  refine wp_fun (fun a S' e q => ?_) fun ⟨h, q⟩ => ⟨_, _, by simp only [bltF, one, blt1, strF, if_pos h], q⟩
  simp only [bltF, one, blt1, strF] at e
  split at e
  · rename_i h; cases e; exact ⟨h, q⟩
  · cases e
theorem wx_tupT {xs : List D} : Wp (bltF .tuple [.tup xs]) S Q ↔ Q (.tup xs) S := wp_okf rfl
theorem wx_tupL {n : Nat} : Wp (bltF .tuple [.ref n]) S Q ↔ ∃ xs, rdL S n = some xs ∧ Q (.tup xs) S := by
  refine wp_fun (fun a S' e q => ?_) fun ⟨xs, h, q⟩ => ⟨_, _, by simp only [bltF, one, blt1, tupleF, h], q⟩
  simp only [bltF, one, blt1, tupleF] at e
  split at e
  · rename_i xs h; cases e; exact ⟨xs, h, q⟩
  · cases e
theorem wx_listT {xs : List D} : Wp (bltF .list [.tup xs]) S Q ↔ Q (.ref S.length) (S ++ [.lst xs]) := wp_okf rfl
theorem wx_listL {n : Nat} : Wp (bltF .list [.ref n]) S Q ↔ ∃ xs, rdL S n = some xs ∧ Q (.ref S.length) (S ++ [.lst xs]) := by
  refine wp_fun (fun a S' e q => ?_) fun ⟨xs, h, q⟩ => ⟨_, _, by simp only [bltF, one, blt1, listF, h]; rfl, q⟩
  simp only [bltF, one, blt1, listF] at e
  split at e
  · rename_i xs h; cases e; exact ⟨xs, h, q⟩
  · cases e
theorem wx_listS {x : Str} : Wp (bltF .list [.str x]) S Q ↔ x.cps.size ≤ sizeLine ∧ Q (.ref S.length) (S ++ [.lst (signsD x)]) := by
  refine wp_fun (fun a S' e q => ?_) fun ⟨h, q⟩ => ⟨_, _, by simp only [bltF, one, blt1, listF, if_pos h]; rfl, q⟩
  simp only [bltF, one, blt1, listF] at e
  split at e
  · rename_i h; cases e; exact ⟨h, q⟩
  · cases e
theorem wx_slcT {xs : List D} {lo hi : Option Int} : Wp (slcF (.tup xs) lo hi) S Q ↔ Q (.tup (cutD xs lo hi)) S := wp_okf rfl
theorem wx_slcL {n : Nat} {lo hi : Option Int} : Wp (slcF (.ref n) lo hi) S Q ↔ ∃ xs, rdL S n = some xs ∧ Q (.ref S.length) (S ++ [.lst (cutD xs lo hi)]) := by
  refine wp_fun (fun a S' e q => ?_) fun ⟨xs, h, q⟩ => ⟨_, _, by simp only [slcF, h]; rfl, q⟩
  simp only [slcF] at e
  split at e
  · rename_i xs h; cases e; exact ⟨xs, h, q⟩
  · cases e
theorem wx_append {n : Nat} {x : D} : Wp (mthF .append (.ref n) [x]) S Q ↔ ∃ xs, rdM S n = some xs ∧ xs.length < sizeLine ∧ Q .non (S.set n (.lst (xs ++ [x]))) := by
  refine wp_fun (fun a S' e q => ?_) fun ⟨xs, h, hz, q⟩ => ⟨_, _, by simp only [mthF, appendF, h, if_pos hz]; rfl, q⟩
  simp only [mthF, appendF] at e
  split at e
  · rename_i xs h
    split at e
    · rename_i hz; cases e; exact ⟨xs, h, hz, q⟩
    · cases e
  · cases e
theorem wx_pop0 {n : Nat} : Wp (mthF .popAt (.ref n) [.int 0]) S Q ↔ ∃ y ys, rdM S n = some (y :: ys) ∧ Q y (S.set n (.lst ys)) := by
  refine wp_fun (fun a S' e q => ?_) fun ⟨y, ys, h, q⟩ => ⟨_, _, by simp only [mthF, pop0F, h], q⟩
  simp only [mthF, pop0F] at e
  split at e
  · rename_i y ys h; cases e; exact ⟨_, _, h, q⟩
  · cases e
theorem wx_joinL {x : Str} {n : Nat} : Wp (mthF .join (.str x) [.ref n]) S Q ↔ ∃ xs, rdL S n = some xs ∧ ∃ ys, strsOf xs = some ys ∧ (ys.map (·.length)).sum + ys.length * x.length ≤ 16777216 ∧ Q (.str (Str.join x ys)) S := by
  refine wp_fun (fun a S' e q => ?_) fun ⟨xs, h, ys, h2, hz, q⟩ => ⟨_, _, by simp only [mthF, joinF, seqOf, h, Option.bind_some, h2, if_pos hz], q⟩
  simp only [mthF, joinF, seqOf] at e
  split at e
  · rename_i ys h
    obtain ⟨xs, h1, h2⟩ := Option.bind_eq_some_iff.mp h
    split at e
    · rename_i hz; cases e; exact ⟨xs, h1, ys, h2, hz, q⟩
    · cases e
  · cases e
theorem wx_split {x y : Str} : Wp (mthF .split (.str x) [.str y]) S Q ↔ ((y.length == 0) = false ∧ x.length + 2 ≤ sizeLine) ∧ Q (.ref S.length) (S ++ [.lst ((Txt.split x y).map .str)]) := by
  refine wp_fun (fun a S' e q => ?_) fun ⟨h, q⟩ => ⟨_, _, by simp only [mthF, splitF, if_pos h]; rfl, q⟩
  simp only [mthF, splitF] at e
  split at e
  · rename_i h; cases e; exact ⟨h, q⟩
  · cases e
theorem wx_find {x y : Str} : Wp (mthF .find (.str x) [.str y]) S Q ↔ Q (.int (Txt.find x y)) S := wp_okf rfl
end
section
variable {Γ : Tx} {ρ : Env} {S : Store}
theorem wx_asgi {o i e : E} {Q : Fl × Env → Store → Prop} : Wp (evS Γ (.asgi o i e) ρ) S Q ↔ Wp (evE Γ e ρ) S fun x S1 => Wp (evE Γ o ρ) S1 fun y S2 => Wp (evE Γ i ρ) S2 fun z S3 =>
    ∃ n k, y = .ref n ∧ z = .int k ∧ ∃ xs, rdM S3 n = some xs ∧ ∃ j, ixN xs.length k = some j ∧ Q (.nx, ρ) (S3.set n (.lst (xs.set j x))) := by
  simp only [evS, wp_bnd]
  have key : ∀ (x y z : D) (S3 : Store), Wp (fun s => match y, z with
    | .ref n, .int k => match rdM s n with
      | some xs => match ixN xs.length k with
        | some j => .ok (.nx, ρ) (s.set n (.lst (xs.set j x)))
        | none => .no
      | none => .no
    | _, _ => .no) S3 Q ↔ ∃ n k, y = .ref n ∧ z = .int k ∧ ∃ xs, rdM S3 n = some xs ∧ ∃ j, ixN xs.length k = some j ∧ Q (.nx, ρ) (S3.set n (.lst (xs.set j x))) := by
    intro x y z S3
    refine wp_fun (fun a S' e q => ?_) ?_
    · split at e
      · rename_i n k
        split at e
        · rename_i xs h
          split at e
          · rename_i j hj; cases e; exact ⟨n, k, rfl, rfl, xs, h, j, hj, q⟩
          · cases e
        · cases e
      · cases e
    · rintro ⟨n, k, rfl, rfl, xs, h, j, hj, q⟩
      exact ⟨_, _, by simp only [h, hj], q⟩
  exact ⟨fun h => h.mono fun x S1 h => h.mono fun y S2 h => h.mono fun z S3 h => (key x y z S3).mp h, fun h => h.mono fun x S1 h => h.mono fun y S2 h => h.mono fun z S3 h => (key x y z S3).mpr h⟩
end
/-- a turn of a for, of a comprehension -/
def stepF (Γ : Tx) (t : T) (b : Ss) (x : D) (ρ1 : Env) : M (Fl × Env) := match asgT t x ρ1 with
  | some ρ2 => evSs Γ b ρ2
  | none => no
def itemF (Γ : Tx) (elt : E) (tg : T) (cond : Es) (own : List (Str × Nat)) (ρ : Env) (x : D) : M (Option D) := match asgT tg x (wipeD ρ (own.map (·.2))) with
  | some ρ1 => bnd (evC Γ cond ρ1) fun k => if k then bnd (evE Γ elt ρ1) fun y => ret (some y) else ret none
  | none => no
section
variable {Γ : Tx} {ρ : Env}
theorem ev_asg {t : T} {e : E} : evS Γ (.asg t e) ρ = bnd (evE Γ e ρ) fun x => bnd (opt (asgT t x ρ)) fun ρ1 => ret (.nx, ρ1) := by simp only [evS]
theorem ev_ex {e : E} : evS Γ (.ex e) ρ = bnd (evE Γ e ρ) fun _ => ret (.nx, ρ) := by simp only [evS]
theorem ev_ret {e : E} : evS Γ (.ret e) ρ = bnd (evE Γ e ρ) fun x => ret (.rt x, ρ) := by simp only [evS]
theorem ev_retn : evS Γ .retn ρ = ret (.rt .non, ρ) := by simp only [evS]
theorem ev_iff {c : E} {a b : Ss} : evS Γ (.iff c a b) ρ = bnd (evT Γ c ρ) fun k => if k then evSs Γ a ρ else evSs Γ b ρ := by simp only [evS]
theorem ev_for {t : T} {it : It} {b : Ss} : evS Γ (.for_ t it b) ρ = bnd (evIt Γ it ρ) fun w => loopF w (stepF Γ t b) w.n 0 ρ := by simp only [evS] <;> rfl
theorem ev_lc {elt : E} {tg : T} {it : It} {cond : Es} {own : List (Str × Nat)} : evE Γ (.lc elt tg it cond own) ρ = bnd (evIt Γ it ρ) fun w => compF w (itemF Γ elt tg cond own ρ) w.n 0 [] := by simp only [evE] <;> rfl
theorem wx_itemF {elt : E} {i : Nat} {cond : Es} {own : List (Str × Nat)} {x : D} {S : Store} {Q : Option D → Store → Prop} : Wp (itemF Γ elt (.name i) cond own ρ x) S Q ↔ Wp (evC Γ cond ((wipeD ρ (own.map (·.2))).set i (some x))) S fun k S1 => (k = true → Wp (evE Γ elt ((wipeD ρ (own.map (·.2))).set i (some x))) S1 fun y S2 => Q (some y) S2) ∧ (k = false → Q none S1) := by
  simp only [itemF, asgT, wp_bnd]
  constructor
  · intro g
    refine g.mono fun k S1 q => ?_
    cases k with
    | true => exact ⟨fun _ => (wp_bnd.mp q).mono fun y S2 z => wp_ret.mp z, fun z => (by cases z)⟩
    | false => exact ⟨fun z => (by cases z), fun _ => wp_ret.mp q⟩
  · intro g
    refine g.mono fun k S1 q => ?_
    cases k with
    | true => exact wp_bnd.mpr ((q.1 rfl).mono fun y S2 z => wp_ret.mpr z)
    | false => exact wp_ret.mpr (q.2 rfl)
theorem wx_stepF {i : Nat} {b : Ss} {x : D} {S : Store} {Q : Fl × Env → Store → Prop} : Wp (stepF Γ (.name i) b x ρ) S Q ↔ Wp (evSs Γ b (ρ.set i (some x))) S Q := by
  simp only [stepF, asgT]
theorem ev_pass : evS Γ .pass ρ = ret (.nx, ρ) := by simp only [evS]
theorem ev_brk : evS Γ .brk ρ = ret (.bk, ρ) := by simp only [evS]
theorem ev_cont : evS Γ .cont ρ = ret (.ct, ρ) := by simp only [evS]
theorem ev_nope : evS Γ .nope ρ = no := by simp only [evS]
theorem ev_augI {i : Nat} {e : E} {j : Int} {S : Store} {Q : Fl × Env → Store → Prop} (h : ρ[i]? = some (some (.int j))) : Wp (evS Γ (.aug i .add e) ρ) S Q ↔ Wp (evE Γ e ρ) S fun y S1 => ∃ k, y = .int k ∧ Q (.nx, ρ.set i (some (.int (j + k)))) S1 := by
  simp only [evS, h, wp_bnd]
  constructor
  · intro g
    refine g.mono fun y S1 q => ?_
    obtain ⟨a, S', e, q⟩ := q
    cases y <;> first | (cases e; done) | skip
    cases e
    exact ⟨_, rfl, q⟩
  · intro g
    refine g.mono fun y S1 q => ?_
    obtain ⟨k, rfl, q⟩ := q
    exact wp_ret.mpr q
end
theorem wx_var {Γ : Tx} {ρ : Env} {S : Store} {i : Nat} {Q : D → Store → Prop} : Wp (evE Γ (.var i) ρ) S Q ↔ ∃ d, ρ[i]? = some (some d) ∧ Q d S := by
  refine wp_fun (fun a S' e q => ?_) fun ⟨d, h, q⟩ => ⟨d, S, by simp only [evE, h]; rfl, q⟩
  simp only [evE] at e
  rcases h : ρ[i]? with _ | _ | d
  · rw [h] at e; cases e
  · rw [h] at e; cases e
  · rw [h] at e; cases e; exact ⟨_, rfl, q⟩
theorem ixN_lit {m n : Nat} : ixN m (no_index (OfNat.ofNat n : Int)) = if n < m then some n else none := by
  show ixN m ((n : Nat) : Int) = _
  unfold ixN
  rw [if_pos (by omega)]
  by_cases h : n < m
  · rw [if_pos (by omega), if_pos h, Int.toNat_natCast]
  · rw [if_neg (by omega), if_neg h]
theorem atI_lit {α : Type} {xs : List α} {n : Nat} : atI xs (no_index (OfNat.ofNat n : Int)) = xs[n]? := by
  unfold atI
  rw [ixN_lit]
  split
  · rfl
  · rename_i h; rw [List.getElem?_eq_none (by omega)]; rfl
/-! ### the store, in pieces -/
theorem rdL_cons0 {xs : List D} {S : Store} : rdL (.lst xs :: S) 0 = some xs := rfl
theorem rdL_ro0 {xs : List D} {S : Store} : rdL (.ro xs :: S) 0 = some xs := rfl
theorem rdL_succ {o : Ob} {S : Store} {n : Nat} : rdL (o :: S) (n + 1) = rdL S n := by simp only [rdL, List.getElem?_cons_succ]
theorem rdM_cons0 {xs : List D} {S : Store} : rdM (.lst xs :: S) 0 = some xs := rfl
theorem rdM_succ {o : Ob} {S : Store} {n : Nat} : rdM (o :: S) (n + 1) = rdM S n := by simp only [rdM, List.getElem?_cons_succ]
end My

namespace My
open PySem PySem.Spec PyProof.Rows L2
section
variable {S : Store} {a b : D} {i j : Int} {x y : Str} {p q : Bool} {xs : List D} {n : Nat}
theorem le_line {n : Nat} (h : n ≤ 1000) : (n ≤ sizeLine) = True := eq_true (Nat.le_trans h (by decide))
theorem lt_line {n : Nat} (h : n ≤ 1000) : (n < sizeLine) = True := eq_true (Nat.lt_of_le_of_lt h (by decide))
theorem cop_eq : copF .eq a b S = eqF S a b := rfl
theorem cop_ne : copF .ne a b S = (eqF S a b).map not := rfl
theorem cop_lt : copF .lt (.int i) (.int j) S = some (decide (i < j)) := rfl
theorem cop_le : copF .le (.int i) (.int j) S = some (decide (i ≤ j)) := rfl
theorem cop_gt : copF .gt (.int i) (.int j) S = some (decide (j < i)) := rfl
theorem cop_ge : copF .ge (.int i) (.int j) S = some (decide (j ≤ i)) := rfl
theorem cop_in : copF .in_ a b S = inF S a b := rfl
theorem cop_notin : copF .notin a b S = (inF S a b).map not := rfl
theorem cop_is0 : copF .isN .non .non S = some true := rfl
theorem cop_is1 : copF .isN (.bl p) .non S = some false := rfl
theorem cop_is2 : copF .isN (.int i) .non S = some false := rfl
theorem cop_is3 : copF .isN (.str x) .non S = some false := rfl
theorem cop_is4 : copF .isN (.tup xs) .non S = some false := rfl
theorem cop_is5 : copF .isN (.ref n) .non S = some false := rfl
theorem eq_int : eqF S (.int i) (.int j) = some (decide (i = j)) := rfl
theorem eq_bl : eqF S (.bl p) (.bl q) = some (decide (p = q)) := rfl
theorem eq_str : eqF S (.str x) (.str y) = some (decide (x = y)) := rfl
theorem tru_non : truF S .non = some false := rfl
theorem tru_bl : truF S (.bl p) = some p := rfl
theorem tru_int : truF S (.int i) = some (i != 0) := rfl
theorem tru_tup : truF S (.tup xs) = some (!xs.isEmpty) := rfl
theorem tru_ref : truF S (.ref n) = (rdL S n).map fun xs => !xs.isEmpty := rfl
theorem tru_str (h : x.length ≤ sizeLine) : truF S (.str x) = some (x.length != 0) := by simp only [truF, if_pos h]
theorem tn_non : tnOf S .non = some .non := rfl
theorem tn_bl : tnOf S (.bl p) = some .bool := rfl
theorem tn_int : tnOf S (.int i) = some .int := rfl
theorem tn_str : tnOf S (.str x) = some .str := rfl
theorem tn_tup : tnOf S (.tup xs) = some .tuple := rfl
theorem tn_ref : tnOf S (.ref n) = (rdL S n).map fun _ => .list := rfl
theorem mt_append : mthTy .append (.ref n) S = (rdL S n).map fun _ => () := rfl
theorem mt_pop0 : mthTy .popAt (.ref n) S = (rdL S n).map fun _ => () := rfl
theorem mt_pop : mthTy .pop (.ref n) S = (rdL S n).map fun _ => () := rfl
theorem mt_reverse : mthTy .reverse (.ref n) S = (rdL S n).map fun _ => () := rfl
theorem mt_clear : mthTy .clear (.ref n) S = (rdL S n).map fun _ => () := rfl
theorem mt_join : mthTy .join (.str x) S = some () := rfl
theorem mt_split : mthTy .split (.str x) S = some () := rfl
theorem mt_find : mthTy .find (.str x) S = some () := rfl
theorem mt_startswith : mthTy .startswith (.str x) S = some () := rfl
theorem mt_partition : mthTy .partition (.str x) S = some () := rfl
theorem wk_tup : wkOf (.tup xs) S = some (wkItems xs) := rfl
theorem wk_str : wkOf (.str x) S = some (wkItems (signsD x)) := rfl
theorem wk_ref : wkOf (.ref n) S = (rdL S n).map fun xs => wkList n xs.length := rfl
end
def negF (x : D) : M D := match x with
  | .int i => ret (.int (-i))
  | _ => no
def rng1F (x : D) : M Wk := match x with
  | .int j => if inRng j then ret (wkRng 0 j.toNat) else no
  | _ => no
def rng2F (x y : D) : M Wk := match x, y with
  | .int i, .int j => if inRng i && inRng j then ret (wkRng i (j - i).toNat) else no
  | _, _ => no
theorem wx_lst {Γ : Tx} {ρ : Env} {es : Es} {S : Store} {Q : D → Store → Prop} : Wp (evE Γ (.lst es) ρ) S Q ↔ Wp (evEs Γ es ρ) S fun xs S1 => xs.length ≤ sizeLine ∧ Q (.ref S1.length) (S1 ++ [.lst xs]) := by
  simp only [evE, wp_bnd]
  constructor
  · intro g
    refine g.mono fun xs S1 q => ?_
    by_cases h : xs.length ≤ sizeLine
    · rw [if_pos h, wp_newL] at q; exact ⟨h, q⟩
    · rw [if_neg h, wp_no] at q; exact q.elim
  · intro g
    refine g.mono fun xs S1 q => ?_
    rw [if_pos q.1, wp_newL]; exact q.2
section
variable {Γ : Tx} {ρ : Env}
theorem ev_lit {d : D} : evE Γ (.lit d) ρ = ret d := by simp only [evE]
theorem ev_var {i : Nat} : evE Γ (.var i) ρ = (match ρ[i]? with
    | some (some d) => ret d
    | _ => no) := by simp only [evE] <;> rfl
theorem ev_gl {x : Str} : evE Γ (.gl x) ρ = opt (Γ.con x) := by simp only [evE]
theorem ev_tup {es : Es} : evE Γ (.tup es) ρ = bnd (evEs Γ es ρ) fun xs => if xs.length ≤ sizeLine then ret (.tup xs) else no := by simp only [evE]
theorem ev_lst {es : Es} : evE Γ (.lst es) ρ = bnd (evEs Γ es ρ) fun xs => if xs.length ≤ sizeLine then newL xs else no := by simp only [evE]
theorem ev_bin {op : Bop} {a b : E} : evE Γ (.bin op a b) ρ = bnd (evE Γ a ρ) fun x => bnd (evE Γ b ρ) fun y => bopF op x y := by simp only [evE]
theorem ev_neg {a : E} : evE Γ (.neg a) ρ = bnd (evE Γ a ρ) negF := by simp only [evE] <;> rfl
theorem ev_cmp {op : Cop} {a b : E} : evE Γ (.cmp op a b) ρ = bnd (evE Γ a ρ) fun x => bnd (evE Γ b ρ) fun y => see fun s => (copF op x y s).map .bl := by simp only [evE]
theorem ev_chain {op op' : Cop} {a b c : E} : evE Γ (.chain op op' a b c) ρ = bnd (evE Γ a ρ) fun x => bnd (evE Γ b ρ) fun y => bnd (see (copF op x y)) fun k =>
      if k then bnd (evE Γ c ρ) fun z => see fun s => (copF op' y z s).map .bl else ret (.bl false) := by simp only [evE]
theorem ev_and {es : Es} : evE Γ (.and_ es) ρ = evAnd Γ es ρ := by simp only [evE]
theorem ev_or {es : Es} : evE Γ (.or_ es) ρ = evOr Γ es ρ := by simp only [evE]
theorem ev_not {a : E} : evE Γ (.not_ a) ρ = bnd (evE Γ a ρ) fun x => see fun s => (truF s x).map fun k => .bl (!k) := by simp only [evE]
theorem ev_ifx {c a b : E} : evE Γ (.ifx c a b) ρ = bnd (evT Γ c ρ) fun k => if k then evE Γ a ρ else evE Γ b ρ := by simp only [evE]
theorem ev_idx {a i : E} : evE Γ (.idx a i) ρ = bnd (evE Γ a ρ) fun x => bnd (evE Γ i ρ) fun y => idxF x y := by simp only [evE]
theorem ev_slc {a : E} {lo hi : Es} : evE Γ (.slc a lo hi) ρ = bnd (evE Γ a ρ) fun x => bnd (evP Γ lo ρ) fun l => bnd (evP Γ hi ρ) fun h => slcF x l h := by simp only [evE]
theorem ev_call {f : Str} {es : Es} : evE Γ (.call f es) ρ = bnd (evEs Γ es ρ) fun xs => Γ.call f xs := by simp only [evE]
theorem ev_blt {b : Blt} {es : Es} : evE Γ (.blt b es) ρ = bnd (evEs Γ es ρ) fun xs => bltF b xs := by simp only [evE]
theorem ev_isi {a : E} {t : Ty} : evE Γ (.isi a t) ρ = bnd (evE Γ a ρ) fun x => see fun s => (tnOf s x).map fun n => .bl (isTn n t) := by simp only [evE]
theorem ev_isis {a : E} {ts : List Ty} : evE Γ (.isis a ts) ρ = bnd (evE Γ a ρ) fun x => bnd (see fun s => tnOf s x) fun n => if ts.length ≤ sizeLine then ret (.bl (ts.any (isTn n))) else no := by simp only [evE]
theorem ev_mth {o : E} {m : Mth} {es : Es} : evE Γ (.mth o m es) ρ = bnd (evE Γ o ρ) fun x => bnd (see (mthTy m x)) fun _ => bnd (evEs Γ es ρ) fun xs => mthF m x xs := by simp only [evE]
theorem ei_val {e : E} : evIt Γ (.val e) ρ = bnd (evE Γ e ρ) fun x => see (wkOf x) := by simp only [evIt]
theorem ei_rng1 {a : E} : evIt Γ (.rng1 a) ρ = bnd (evE Γ a ρ) rng1F := by simp only [evIt] <;> rfl
theorem ei_rng2 {a b : E} : evIt Γ (.rng2 a b) ρ = bnd (evE Γ a ρ) fun x => bnd (evE Γ b ρ) (rng2F x) := by simp only [evIt] <;> rfl
theorem ei_zip {a b : E} : evIt Γ (.zip a b) ρ = bnd (evE Γ a ρ) fun x => bnd (evE Γ b ρ) fun y => see fun s => zipF s x y := by simp only [evIt]
theorem ei_enum {a : E} : evIt Γ (.enum a) ρ = bnd (evE Γ a ρ) fun x => see fun s => enumF s x := by simp only [evIt]
end
theorem wp_neg {i : Int} {S : Store} {Q : D → Store → Prop} : Wp (negF (.int i)) S Q ↔ Q (.int (-i)) S := wp_okf rfl
theorem wp_rng1 {j : Int} {S : Store} {Q : Wk → Store → Prop} : Wp (rng1F (.int j)) S Q ↔ inRng j = true ∧ Q (wkRng 0 j.toNat) S := by
  unfold rng1F
  by_cases h : inRng j = true
  · simp only [h, if_true, wp_ret, true_and]
  · simp only [h, Bool.false_eq_true, if_false, wp_no, false_and]
theorem wp_rng2 {i j : Int} {S : Store} {Q : Wk → Store → Prop} : Wp (rng2F (.int i) (.int j)) S Q ↔ (inRng i && inRng j) = true ∧ Q (wkRng i (j - i).toNat) S := by
  unfold rng2F
  by_cases h : (inRng i && inRng j) = true
  · simp only [h, if_true, wp_ret, true_and]
  · simp only [h, Bool.false_eq_true, if_false, wp_no, false_and]
theorem asg_name {i : Nat} {d : D} {ρ : Env} : asgT (.name i) d ρ = some (ρ.set i (some d)) := rfl
theorem asg_tup {ts : List T} {xs : List D} {ρ : Env} : asgT (.tup ts) (.tup xs) ρ = asgTs ts xs ρ := rfl
theorem asgs_nil {ρ : Env} : asgTs [] [] ρ = some ρ := rfl
theorem asgs_cons {t : T} {ts : List T} {x : D} {xs : List D} {ρ : Env} : asgTs (t :: ts) (x :: xs) ρ = (asgT t x ρ).bind (asgTs ts xs) := rfl
theorem nlit {n : Nat} : ((no_index (OfNat.ofNat n) : Nat) : Int) = (OfNat.ofNat n : Int) := rfl
theorem rdL_at {R X : Store} {i : Nat} : rdL (R ++ X) (R.length + i) = rdL X i := by
  unfold rdL; rw [List.getElem?_append_right (by omega), Nat.add_sub_cancel_left]
theorem rdL_at0 {R X : Store} : rdL (R ++ X) R.length = rdL X 0 := rdL_at (i := 0)
theorem rdM_at {R X : Store} {i : Nat} : rdM (R ++ X) (R.length + i) = rdM X i := by
  unfold rdM; rw [List.getElem?_append_right (by omega), Nat.add_sub_cancel_left]
theorem rdM_at0 {R X : Store} : rdM (R ++ X) R.length = rdM X 0 := rdM_at (i := 0)
theorem set_at {R X : Store} {i : Nat} {o : Ob} : (R ++ X).set (R.length + i) o = R ++ X.set i o := by
  rw [List.set_append_right _ _ (by omega), Nat.add_sub_cancel_left]
theorem set_at0 {R X : Store} {o : Ob} : (R ++ X).set R.length o = R ++ X.set 0 o := set_at (i := 0)
theorem wx_addL {n m : Nat} {S : Store} {Q : D → Store → Prop} : Wp (bopF .add (.ref n) (.ref m)) S Q ↔ ∃ xs, rdM S n = some xs ∧ ∃ ys, rdM S m = some ys ∧ xs.length + ys.length ≤ sizeLine ∧ Q (.ref S.length) (S ++ [.lst (xs ++ ys)]) := by
  constructor
  · rintro ⟨a, S', e, q⟩
    simp only [bopF] at e
    cases h1 : rdM S n with
    | none => rw [h1] at e; cases e
    | some xs =>
      cases h2 : rdM S m with
      | none => rw [h1, h2] at e; cases e
      | some ys =>
        rw [h1, h2] at e
        dsimp only at e
        split at e
        · rename_i hz; cases e; exact ⟨xs, rfl, ys, rfl, hz, q⟩
        · cases e
  · rintro ⟨xs, h1, ys, h2, hz, q⟩
    exact ⟨_, _, by simp only [bopF, h1, h2, if_pos hz], q⟩
theorem ev_fmt {Γ : Tx} {ρ : Env} {a : E} : evE Γ (.fmt a) ρ = bnd (evE Γ a ρ) fmtF := by simp only [evE]
theorem ev_fstr {Γ : Tx} {ρ : Env} {es : Es} : evE Γ (.fstr es) ρ = bnd (evEs Γ es ρ) fstrF := by simp only [evE]
theorem ev_tupRg1 {Γ : Tx} {ρ : Env} {a : E} : evE Γ (.tupRg1 a) ρ = bnd (evE Γ a ρ) fun x => tupRgF (.int 0) x := by simp only [evE]
theorem ev_tupRg2 {Γ : Tx} {ρ : Env} {a b : E} : evE Γ (.tupRg2 a b) ρ = bnd (evE Γ a ρ) fun x => bnd (evE Γ b ρ) fun y => tupRgF x y := by simp only [evE]
theorem wp_fmtS {y : Str} {S : Store} {Q : D → Store → Prop} : Wp (fmtF (.str y)) S Q ↔ y.length ≤ sizeLine ∧ Q (.str y) S := by
  unfold fmtF
  by_cases h : y.length ≤ sizeLine
  · simp only [h, if_true, wp_ret, true_and]
  · simp only [h, if_false, wp_no, false_and]
theorem wp_fmtI {i : Int} {S : Store} {Q : D → Store → Prop} : Wp (fmtF (.int i)) S Q ↔ i.natAbs.log2 < 1920 ∧ Q (.str (Str.ofString (toString i))) S := by
  unfold fmtF
  by_cases h : i.natAbs.log2 < 1920
  · simp only [h, if_true, wp_ret, true_and]
  · simp only [h, if_false, wp_no, false_and]
theorem wp_fstr {xs : List D} {S : Store} {Q : D → Store → Prop} : Wp (fstrF xs) S Q ↔ ∃ ys, strsOf xs = some ys ∧ sumL ys ≤ sizeLine ∧ Q (.str (catS ys Str.empty)) S := by
  unfold fstrF
  cases h : strsOf xs with
  | none => simp only [wp_no]; exact ⟨fun z => z.elim, fun ⟨_, z, _⟩ => by cases z⟩
  | some ys =>
    dsimp only
    by_cases hz : sumL ys ≤ sizeLine
    · rw [if_pos hz, wp_ret]; exact ⟨fun q => ⟨ys, rfl, hz, q⟩, fun ⟨_, e, _, q⟩ => by cases e; exact q⟩
    · rw [if_neg hz, wp_no]; exact ⟨fun z => z.elim, fun ⟨_, e, z, _⟩ => by cases e; exact hz z⟩
theorem wp_tupRg {a b : Int} {S : Store} {Q : D → Store → Prop} : Wp (tupRgF (.int a) (.int b)) S Q ↔ rgOkB a b = true ∧ Q (.tup (rgD a b)) S := by
  unfold tupRgF
  by_cases h : rgOkB a b = true
  · simp only [h, if_true, wp_ret, true_and]
  · simp only [h, Bool.false_eq_true, if_false, wp_no, false_and]
theorem wx_reverse {n : Nat} {S : Store} {Q : D → Store → Prop} : Wp (mthF .reverse (.ref n) []) S Q ↔ ∃ xs, rdM S n = some xs ∧ Q .non (S.set n (.lst xs.reverse)) := by
  refine wp_fun (fun a S' e q => ?_) fun ⟨xs, h, q⟩ => ⟨_, _, by simp only [mthF, reverseF, h]; rfl, q⟩
  simp only [mthF, reverseF] at e
  split at e
  · rename_i xs h; cases e; exact ⟨xs, h, q⟩
  · cases e
theorem wp_iteB {α : Type} {c : Bool} {m n : M α} {S : Store} {Q : α → Store → Prop} : Wp (if c = true then m else n) S Q ↔ (c = true → Wp m S Q) ∧ (c = false → Wp n S Q) := by
  cases c <;> simp
end My

/-! The law's numbers drawn. -/
namespace My
open PySem PySem.Spec PyProof.Rows L2
/-- the store with the pool -/
abbrev pst (sc ce : List D) (G C : List Int) (k : Int) (R : Store) : Store := .ro sc :: .lst ce :: .lst (G.map .int) :: .lst (C.map .int) :: .lst [.ref 2, .ref 3, .int k] :: R
theorem log_lt {i : Int} {n : Nat} (h : i.natAbs < 2 ^ n) (hn : 0 < n) : i.natAbs.log2 < n := by
  by_cases h0 : i.natAbs = 0
  · rw [h0]; simpa using hn
  · exact (Nat.log2_lt h0).mpr h
theorem lg1 {i : Int} (h0 : 0 ≤ i) (h : i < 2 ^ 64) : i.natAbs.log2 < 64 := log_lt (by omega) (by omega)
theorem lgs {i j : Int} (h0 : 0 ≤ i) (h : i < 2 ^ 64) (h0' : 0 ≤ j) (h' : j < 2 ^ 64) : i.natAbs.log2 + j.natAbs.log2 < 1000000 := by
  have := lg1 h0 h
  have := lg1 h0' h'
  omega
theorem lgd {j : Int} (h0' : 0 < j) (h' : j < 2 ^ 64) : j.natAbs.log2 < 9000 := by
  have := lg1 (Int.le_of_lt h0') h'
  omega
theorem sq_lt {n : Int} (h : 0 ≤ n ∧ n < 1000001) : 0 ≤ n * n ∧ n * n < 2 ^ 64 := by
  refine ⟨Int.mul_nonneg h.1 h.1, ?_⟩
  have : n * n ≤ 1000001 * 1000001 := Int.mul_le_mul (by omega) (by omega) h.1 (by omega)
  omega
theorem atI_map {α : Type} {f : Int → α} {xs : List Int} {i : Int} (h0 : 0 ≤ i) (h1 : i < xs.length) : ∃ c ∈ xs, atI (xs.map f) i = some (f c) := by
  obtain ⟨j, rfl⟩ := Int.eq_ofNat_of_zero_le h0
  have hl : j < xs.length := by omega
  exact ⟨xs[j], List.getElem_mem hl, atI_nat (by simp [List.getElem?_map, List.getElem?_eq_getElem hl])⟩
section
variable {ds : List Df} {con : Str → Option D} {fuel k : Nat} {sc ce : List D} {G C : List Int} {n : Int} {R : Store}
theorem draw_ok (h : findD ds Lib.df__law_draw.name = some Lib.df__law_draw) (hC : ∀ c ∈ C, 0 ≤ c ∧ c < 1000000000000000000) (hCl : C.length ≤ 63) (hn : 0 ≤ n ∧ n < 1000000) {lim : Int} (hl : 0 < lim ∧ lim < 100000) :
    Wp (callD ds con fuel (k + 1) "_law_draw" [.ref 4, .int lim]) (pst sc ce G C n R) fun a S1 => ∃ x, a = .int x ∧ (0 ≤ x ∧ x < lim) ∧ ∃ G', S1 = pst sc ce G' C (n + 1) R := by
  refine wp_call h rfl rfl ?_
  simp only [Lib.df__law_draw, Lib.b__law_draw]
  simp only [wp_cons, wp_nil, wx_asgi, ev_lit, ev_var, ev_gl, ev_tup, ev_lst, ev_bin, ev_neg, ev_cmp, ev_chain, ev_and, ev_or, ev_not, ev_ifx, ev_idx, ev_slc, ev_call, ev_blt, ev_isi, ev_isis, ev_mth, ev_lc, ei_val, ei_rng1, ei_rng2, ei_zip, ei_enum, wx_addL, ev_fmt, ev_fstr, ev_tupRg1, ev_tupRg2, wp_fmtS, wp_fmtI, wp_fstr, wp_tupRg, wx_reverse, wp_neg, wp_rng1, wp_rng2, evEs, ev_asg, ev_ex, ev_ret, ev_retn, ev_iff, ev_for, ev_pass, ev_brk, ev_cont, ev_nope, wp_no, evT, evAnd, evOr, evTA, evTO, evP, evC, wp_bnd, wp_ret, wp_opt, wp_see, wp_add, wp_sub, wx_mul, wx_fdiv, wx_mod, wx_addS, wx_addT, wx_idxT, wx_idxL, wx_int, wx_abs, wx_lenL, wx_lenT, wx_lenS, wx_strI, wx_tupT, wx_tupL, wx_listT, wx_listL, wx_listS, wx_slcT, wx_slcL, wx_append, wx_pop0, wx_joinL, wx_split, wx_find, wp_newL, wp_setL, then_nx, then_rt, then_bk, then_ct, fin_rt, fin_nx, asg_name, asg_tup, asgs_nil, asgs_cons, le_line, lt_line, cop_eq, cop_ne, cop_lt, cop_le, cop_gt, cop_ge, cop_in, cop_notin, cop_is0, cop_is1, cop_is2, cop_is3, cop_is4, cop_is5, eq_int, eq_bl, eq_str, tru_non, tru_bl, tru_int, tru_tup, tru_ref, tn_non, tn_bl, tn_int, tn_str, tn_tup, tn_ref, isTn, mt_append, mt_pop0, mt_pop, mt_reverse, mt_clear, mt_join, mt_split, mt_find, mt_startswith, mt_partition, wk_tup, wk_str, wk_ref,
    rdL_cons0, rdL_ro0, rdL_succ, rdM_cons0, rdM_succ, List.map_cons, List.map_nil, List.replicate_succ, List.replicate_zero, List.cons_append, List.nil_append, List.append_nil, List.append_assoc, rdL_at, rdL_at0, rdM_at, rdM_at0, set_at, set_at0, List.length_append, Nat.add_assoc, List.getElem?_cons_succ, List.getElem?_cons_zero, List.set_cons_succ, List.set_cons_zero, Nat.reduceSub, Nat.reduceAdd, Option.map_some, Option.bind_some, Option.some.injEq, exists_eq_left', exists_eq_left, exists_eq', exists_and_left, exists_const, D.int.injEq, D.ref.injEq, D.str.injEq, D.bl.injEq, D.tup.injEq, true_and, and_true, List.length_cons, List.length_nil, atI_lit, ixN_lit, Nat.reduceLT, Nat.reduceLeDiff, Nat.reduceEqDiff, Int.reduceLT, Int.reduceLE, Int.reduceEq, Nat.lt_irrefl, Nat.zero_lt_succ, Nat.reduceMul, Int.reduceNeg, Bool.false_eq_true, if_true, if_false, Nat.zero_add, nlit, eq_self, decide_true, decide_false, reduceIte, Bool.or_false, Bool.false_or, Bool.true_or, Bool.or_true, Bool.and_true, Bool.true_and, Bool.and_false, Bool.false_and, Bool.not_true, Bool.not_false, List.all_cons, List.all_nil, List.any_cons, List.any_nil]
  have hs : 0 ≤ (n + 1) * (n + 1) ∧ (n + 1) * (n + 1) < 2 ^ 64 := sq_lt (by omega)
  cases G with
  | cons g G' =>
    simp only [wp_cons, wp_nil, wx_asgi, ev_lit, ev_var, ev_gl, ev_tup, ev_lst, ev_bin, ev_neg, ev_cmp, ev_chain, ev_and, ev_or, ev_not, ev_ifx, ev_idx, ev_slc, ev_call, ev_blt, ev_isi, ev_isis, ev_mth, ev_lc, ei_val, ei_rng1, ei_rng2, ei_zip, ei_enum, wx_addL, ev_fmt, ev_fstr, ev_tupRg1, ev_tupRg2, wp_fmtS, wp_fmtI, wp_fstr, wp_tupRg, wx_reverse, wp_neg, wp_rng1, wp_rng2, evEs, ev_asg, ev_ex, ev_ret, ev_retn, ev_iff, ev_for, ev_pass, ev_brk, ev_cont, ev_nope, wp_no, evT, evAnd, evOr, evTA, evTO, evP, evC, wp_bnd, wp_ret, wp_opt, wp_see, wp_add, wp_sub, wx_mul, wx_fdiv, wx_mod, wx_addS, wx_addT, wx_idxT, wx_idxL, wx_int, wx_abs, wx_lenL, wx_lenT, wx_lenS, wx_strI, wx_tupT, wx_tupL, wx_listT, wx_listL, wx_listS, wx_slcT, wx_slcL, wx_append, wx_pop0, wx_joinL, wx_split, wx_find, wp_newL, wp_setL, then_nx, then_rt, then_bk, then_ct, fin_rt, fin_nx, asg_name, asg_tup, asgs_nil, asgs_cons, le_line, lt_line, cop_eq, cop_ne, cop_lt, cop_le, cop_gt, cop_ge, cop_in, cop_notin, cop_is0, cop_is1, cop_is2, cop_is3, cop_is4, cop_is5, eq_int, eq_bl, eq_str, tru_non, tru_bl, tru_int, tru_tup, tru_ref, tn_non, tn_bl, tn_int, tn_str, tn_tup, tn_ref, isTn, mt_append, mt_pop0, mt_pop, mt_reverse, mt_clear, mt_join, mt_split, mt_find, mt_startswith, mt_partition, wk_tup, wk_str, wk_ref,
    rdL_cons0, rdL_ro0, rdL_succ, rdM_cons0, rdM_succ, List.map_cons, List.map_nil, List.replicate_succ, List.replicate_zero, List.cons_append, List.nil_append, List.append_nil, List.append_assoc, rdL_at, rdL_at0, rdM_at, rdM_at0, set_at, set_at0, List.length_append, Nat.add_assoc, List.getElem?_cons_succ, List.getElem?_cons_zero, List.set_cons_succ, List.set_cons_zero, Nat.reduceSub, Nat.reduceAdd, Option.map_some, Option.bind_some, Option.some.injEq, exists_eq_left', exists_eq_left, exists_eq', exists_and_left, exists_const, D.int.injEq, D.ref.injEq, D.str.injEq, D.bl.injEq, D.tup.injEq, true_and, and_true, List.length_cons, List.length_nil, atI_lit, ixN_lit, Nat.reduceLT, Nat.reduceLeDiff, Nat.reduceEqDiff, Int.reduceLT, Int.reduceLE, Int.reduceEq, Nat.lt_irrefl, Nat.zero_lt_succ, Nat.reduceMul, Int.reduceNeg, Bool.false_eq_true, if_true, if_false, Nat.zero_add, nlit, eq_self, decide_true, decide_false, reduceIte, Bool.or_false, Bool.false_or, Bool.true_or, Bool.or_true, Bool.and_true, Bool.true_and, Bool.and_false, Bool.false_and, Bool.not_true, Bool.not_false, List.all_cons, List.all_nil, List.any_cons, List.any_nil, List.isEmpty_cons]
    refine ⟨hl.1, ⟨hl.1, lgd hl.1 (by omega)⟩, ?_⟩
    by_cases hz : g / lim = 0
    · simp only [wp_cons, wp_nil, wx_asgi, ev_lit, ev_var, ev_gl, ev_tup, ev_lst, ev_bin, ev_neg, ev_cmp, ev_chain, ev_and, ev_or, ev_not, ev_ifx, ev_idx, ev_slc, ev_call, ev_blt, ev_isi, ev_isis, ev_mth, ev_lc, ei_val, ei_rng1, ei_rng2, ei_zip, ei_enum, wx_addL, ev_fmt, ev_fstr, ev_tupRg1, ev_tupRg2, wp_fmtS, wp_fmtI, wp_fstr, wp_tupRg, wx_reverse, wp_neg, wp_rng1, wp_rng2, evEs, ev_asg, ev_ex, ev_ret, ev_retn, ev_iff, ev_for, ev_pass, ev_brk, ev_cont, ev_nope, wp_no, evT, evAnd, evOr, evTA, evTO, evP, evC, wp_bnd, wp_ret, wp_opt, wp_see, wp_add, wp_sub, wx_mul, wx_fdiv, wx_mod, wx_addS, wx_addT, wx_idxT, wx_idxL, wx_int, wx_abs, wx_lenL, wx_lenT, wx_lenS, wx_strI, wx_tupT, wx_tupL, wx_listT, wx_listL, wx_listS, wx_slcT, wx_slcL, wx_append, wx_pop0, wx_joinL, wx_split, wx_find, wp_newL, wp_setL, then_nx, then_rt, then_bk, then_ct, fin_rt, fin_nx, asg_name, asg_tup, asgs_nil, asgs_cons, le_line, lt_line, cop_eq, cop_ne, cop_lt, cop_le, cop_gt, cop_ge, cop_in, cop_notin, cop_is0, cop_is1, cop_is2, cop_is3, cop_is4, cop_is5, eq_int, eq_bl, eq_str, tru_non, tru_bl, tru_int, tru_tup, tru_ref, tn_non, tn_bl, tn_int, tn_str, tn_tup, tn_ref, isTn, mt_append, mt_pop0, mt_pop, mt_reverse, mt_clear, mt_join, mt_split, mt_find, mt_startswith, mt_partition, wk_tup, wk_str, wk_ref,
    rdL_cons0, rdL_ro0, rdL_succ, rdM_cons0, rdM_succ, List.map_cons, List.map_nil, List.replicate_succ, List.replicate_zero, List.cons_append, List.nil_append, List.append_nil, List.append_assoc, rdL_at, rdL_at0, rdM_at, rdM_at0, set_at, set_at0, List.length_append, Nat.add_assoc, List.getElem?_cons_succ, List.getElem?_cons_zero, List.set_cons_succ, List.set_cons_zero, Nat.reduceSub, Nat.reduceAdd, Option.map_some, Option.bind_some, Option.some.injEq, exists_eq_left', exists_eq_left, exists_eq', exists_and_left, exists_const, D.int.injEq, D.ref.injEq, D.str.injEq, D.bl.injEq, D.tup.injEq, true_and, and_true, List.length_cons, List.length_nil, atI_lit, ixN_lit, Nat.reduceLT, Nat.reduceLeDiff, Nat.reduceEqDiff, Int.reduceLT, Int.reduceLE, Int.reduceEq, Nat.lt_irrefl, Nat.zero_lt_succ, Nat.reduceMul, Int.reduceNeg, Bool.false_eq_true, if_true, if_false, Nat.zero_add, nlit, eq_self, decide_true, decide_false, reduceIte, Bool.or_false, Bool.false_or, Bool.true_or, Bool.or_true, Bool.and_true, Bool.true_and, Bool.and_false, Bool.false_and, Bool.not_true, Bool.not_false, List.all_cons, List.all_nil, List.any_cons, List.any_nil, hz, decide_true]
      exact ⟨_, _, rfl, ⟨Int.emod_nonneg _ (by omega), Int.emod_lt_of_pos _ hl.1⟩, G', rfl⟩
    · simp only [wp_cons, wp_nil, wx_asgi, ev_lit, ev_var, ev_gl, ev_tup, ev_lst, ev_bin, ev_neg, ev_cmp, ev_chain, ev_and, ev_or, ev_not, ev_ifx, ev_idx, ev_slc, ev_call, ev_blt, ev_isi, ev_isis, ev_mth, ev_lc, ei_val, ei_rng1, ei_rng2, ei_zip, ei_enum, wx_addL, ev_fmt, ev_fstr, ev_tupRg1, ev_tupRg2, wp_fmtS, wp_fmtI, wp_fstr, wp_tupRg, wx_reverse, wp_neg, wp_rng1, wp_rng2, evEs, ev_asg, ev_ex, ev_ret, ev_retn, ev_iff, ev_for, ev_pass, ev_brk, ev_cont, ev_nope, wp_no, evT, evAnd, evOr, evTA, evTO, evP, evC, wp_bnd, wp_ret, wp_opt, wp_see, wp_add, wp_sub, wx_mul, wx_fdiv, wx_mod, wx_addS, wx_addT, wx_idxT, wx_idxL, wx_int, wx_abs, wx_lenL, wx_lenT, wx_lenS, wx_strI, wx_tupT, wx_tupL, wx_listT, wx_listL, wx_listS, wx_slcT, wx_slcL, wx_append, wx_pop0, wx_joinL, wx_split, wx_find, wp_newL, wp_setL, then_nx, then_rt, then_bk, then_ct, fin_rt, fin_nx, asg_name, asg_tup, asgs_nil, asgs_cons, le_line, lt_line, cop_eq, cop_ne, cop_lt, cop_le, cop_gt, cop_ge, cop_in, cop_notin, cop_is0, cop_is1, cop_is2, cop_is3, cop_is4, cop_is5, eq_int, eq_bl, eq_str, tru_non, tru_bl, tru_int, tru_tup, tru_ref, tn_non, tn_bl, tn_int, tn_str, tn_tup, tn_ref, isTn, mt_append, mt_pop0, mt_pop, mt_reverse, mt_clear, mt_join, mt_split, mt_find, mt_startswith, mt_partition, wk_tup, wk_str, wk_ref,
    rdL_cons0, rdL_ro0, rdL_succ, rdM_cons0, rdM_succ, List.map_cons, List.map_nil, List.replicate_succ, List.replicate_zero, List.cons_append, List.nil_append, List.append_nil, List.append_assoc, rdL_at, rdL_at0, rdM_at, rdM_at0, set_at, set_at0, List.length_append, Nat.add_assoc, List.getElem?_cons_succ, List.getElem?_cons_zero, List.set_cons_succ, List.set_cons_zero, Nat.reduceSub, Nat.reduceAdd, Option.map_some, Option.bind_some, Option.some.injEq, exists_eq_left', exists_eq_left, exists_eq', exists_and_left, exists_const, D.int.injEq, D.ref.injEq, D.str.injEq, D.bl.injEq, D.tup.injEq, true_and, and_true, List.length_cons, List.length_nil, atI_lit, ixN_lit, Nat.reduceLT, Nat.reduceLeDiff, Nat.reduceEqDiff, Int.reduceLT, Int.reduceLE, Int.reduceEq, Nat.lt_irrefl, Nat.zero_lt_succ, Nat.reduceMul, Int.reduceNeg, Bool.false_eq_true, if_true, if_false, Nat.zero_add, nlit, eq_self, decide_true, decide_false, reduceIte, Bool.or_false, Bool.false_or, Bool.true_or, Bool.or_true, Bool.and_true, Bool.true_and, Bool.and_false, Bool.false_and, Bool.not_true, Bool.not_false, List.all_cons, List.all_nil, List.any_cons, List.any_nil, hz, decide_false]
      exact ⟨⟨Int.emod_nonneg _ (by omega), Int.emod_lt_of_pos _ hl.1⟩, g / lim :: G', rfl⟩
  | nil =>
    simp only [wp_cons, wp_nil, wx_asgi, ev_lit, ev_var, ev_gl, ev_tup, ev_lst, ev_bin, ev_neg, ev_cmp, ev_chain, ev_and, ev_or, ev_not, ev_ifx, ev_idx, ev_slc, ev_call, ev_blt, ev_isi, ev_isis, ev_mth, ev_lc, ei_val, ei_rng1, ei_rng2, ei_zip, ei_enum, wx_addL, ev_fmt, ev_fstr, ev_tupRg1, ev_tupRg2, wp_fmtS, wp_fmtI, wp_fstr, wp_tupRg, wx_reverse, wp_neg, wp_rng1, wp_rng2, evEs, ev_asg, ev_ex, ev_ret, ev_retn, ev_iff, ev_for, ev_pass, ev_brk, ev_cont, ev_nope, wp_no, evT, evAnd, evOr, evTA, evTO, evP, evC, wp_bnd, wp_ret, wp_opt, wp_see, wp_add, wp_sub, wx_mul, wx_fdiv, wx_mod, wx_addS, wx_addT, wx_idxT, wx_idxL, wx_int, wx_abs, wx_lenL, wx_lenT, wx_lenS, wx_strI, wx_tupT, wx_tupL, wx_listT, wx_listL, wx_listS, wx_slcT, wx_slcL, wx_append, wx_pop0, wx_joinL, wx_split, wx_find, wp_newL, wp_setL, then_nx, then_rt, then_bk, then_ct, fin_rt, fin_nx, asg_name, asg_tup, asgs_nil, asgs_cons, le_line, lt_line, cop_eq, cop_ne, cop_lt, cop_le, cop_gt, cop_ge, cop_in, cop_notin, cop_is0, cop_is1, cop_is2, cop_is3, cop_is4, cop_is5, eq_int, eq_bl, eq_str, tru_non, tru_bl, tru_int, tru_tup, tru_ref, tn_non, tn_bl, tn_int, tn_str, tn_tup, tn_ref, isTn, mt_append, mt_pop0, mt_pop, mt_reverse, mt_clear, mt_join, mt_split, mt_find, mt_startswith, mt_partition, wk_tup, wk_str, wk_ref,
    rdL_cons0, rdL_ro0, rdL_succ, rdM_cons0, rdM_succ, List.map_cons, List.map_nil, List.replicate_succ, List.replicate_zero, List.cons_append, List.nil_append, List.append_nil, List.append_assoc, rdL_at, rdL_at0, rdM_at, rdM_at0, set_at, set_at0, List.length_append, Nat.add_assoc, List.getElem?_cons_succ, List.getElem?_cons_zero, List.set_cons_succ, List.set_cons_zero, Nat.reduceSub, Nat.reduceAdd, Option.map_some, Option.bind_some, Option.some.injEq, exists_eq_left', exists_eq_left, exists_eq', exists_and_left, exists_const, D.int.injEq, D.ref.injEq, D.str.injEq, D.bl.injEq, D.tup.injEq, true_and, and_true, List.length_cons, List.length_nil, atI_lit, ixN_lit, Nat.reduceLT, Nat.reduceLeDiff, Nat.reduceEqDiff, Int.reduceLT, Int.reduceLE, Int.reduceEq, Nat.lt_irrefl, Nat.zero_lt_succ, Nat.reduceMul, Int.reduceNeg, Bool.false_eq_true, if_true, if_false, Nat.zero_add, nlit, eq_self, decide_true, decide_false, reduceIte, Bool.or_false, Bool.false_or, Bool.true_or, Bool.or_true, Bool.and_true, Bool.true_and, Bool.and_false, Bool.false_and, Bool.not_true, Bool.not_false, List.all_cons, List.all_nil, List.any_cons, List.any_nil, List.isEmpty_nil]
    cases C with
    | nil =>
      simp only [wp_cons, wp_nil, wx_asgi, ev_lit, ev_var, ev_gl, ev_tup, ev_lst, ev_bin, ev_neg, ev_cmp, ev_chain, ev_and, ev_or, ev_not, ev_ifx, ev_idx, ev_slc, ev_call, ev_blt, ev_isi, ev_isis, ev_mth, ev_lc, ei_val, ei_rng1, ei_rng2, ei_zip, ei_enum, wx_addL, ev_fmt, ev_fstr, ev_tupRg1, ev_tupRg2, wp_fmtS, wp_fmtI, wp_fstr, wp_tupRg, wx_reverse, wp_neg, wp_rng1, wp_rng2, evEs, ev_asg, ev_ex, ev_ret, ev_retn, ev_iff, ev_for, ev_pass, ev_brk, ev_cont, ev_nope, wp_no, evT, evAnd, evOr, evTA, evTO, evP, evC, wp_bnd, wp_ret, wp_opt, wp_see, wp_add, wp_sub, wx_mul, wx_fdiv, wx_mod, wx_addS, wx_addT, wx_idxT, wx_idxL, wx_int, wx_abs, wx_lenL, wx_lenT, wx_lenS, wx_strI, wx_tupT, wx_tupL, wx_listT, wx_listL, wx_listS, wx_slcT, wx_slcL, wx_append, wx_pop0, wx_joinL, wx_split, wx_find, wp_newL, wp_setL, then_nx, then_rt, then_bk, then_ct, fin_rt, fin_nx, asg_name, asg_tup, asgs_nil, asgs_cons, le_line, lt_line, cop_eq, cop_ne, cop_lt, cop_le, cop_gt, cop_ge, cop_in, cop_notin, cop_is0, cop_is1, cop_is2, cop_is3, cop_is4, cop_is5, eq_int, eq_bl, eq_str, tru_non, tru_bl, tru_int, tru_tup, tru_ref, tn_non, tn_bl, tn_int, tn_str, tn_tup, tn_ref, isTn, mt_append, mt_pop0, mt_pop, mt_reverse, mt_clear, mt_join, mt_split, mt_find, mt_startswith, mt_partition, wk_tup, wk_str, wk_ref,
    rdL_cons0, rdL_ro0, rdL_succ, rdM_cons0, rdM_succ, List.map_cons, List.map_nil, List.replicate_succ, List.replicate_zero, List.cons_append, List.nil_append, List.append_nil, List.append_assoc, rdL_at, rdL_at0, rdM_at, rdM_at0, set_at, set_at0, List.length_append, Nat.add_assoc, List.getElem?_cons_succ, List.getElem?_cons_zero, List.set_cons_succ, List.set_cons_zero, Nat.reduceSub, Nat.reduceAdd, Option.map_some, Option.bind_some, Option.some.injEq, exists_eq_left', exists_eq_left, exists_eq', exists_and_left, exists_const, D.int.injEq, D.ref.injEq, D.str.injEq, D.bl.injEq, D.tup.injEq, true_and, and_true, List.length_cons, List.length_nil, atI_lit, ixN_lit, Nat.reduceLT, Nat.reduceLeDiff, Nat.reduceEqDiff, Int.reduceLT, Int.reduceLE, Int.reduceEq, Nat.lt_irrefl, Nat.zero_lt_succ, Nat.reduceMul, Int.reduceNeg, Bool.false_eq_true, if_true, if_false, Nat.zero_add, nlit, eq_self, decide_true, decide_false, reduceIte, Bool.or_false, Bool.false_or, Bool.true_or, Bool.or_true, Bool.and_true, Bool.true_and, Bool.and_false, Bool.false_and, Bool.not_true, Bool.not_false, List.all_cons, List.all_nil, List.any_cons, List.any_nil, List.isEmpty_nil]
      refine ⟨lgs (by omega) (by omega) (by omega) (by omega), lgs (by omega) (by omega) (by omega) (by omega), lgs (by omega) (by omega) (by omega) (by omega), lgs (by omega) (by omega) (by omega) (by omega), lgs hs.1 hs.2 (by omega) (by omega), lgd (by omega) (by omega), lgs (by omega) (by omega) (by omega) (by omega), lgd (by omega) (by omega), by omega, ⟨Int.emod_nonneg _ (by omega), Int.emod_lt_of_pos _ hl.1⟩, [], rfl⟩
    | cons c C' =>
      simp only [wp_cons, wp_nil, wx_asgi, ev_lit, ev_var, ev_gl, ev_tup, ev_lst, ev_bin, ev_neg, ev_cmp, ev_chain, ev_and, ev_or, ev_not, ev_ifx, ev_idx, ev_slc, ev_call, ev_blt, ev_isi, ev_isis, ev_mth, ev_lc, ei_val, ei_rng1, ei_rng2, ei_zip, ei_enum, wx_addL, ev_fmt, ev_fstr, ev_tupRg1, ev_tupRg2, wp_fmtS, wp_fmtI, wp_fstr, wp_tupRg, wx_reverse, wp_neg, wp_rng1, wp_rng2, evEs, ev_asg, ev_ex, ev_ret, ev_retn, ev_iff, ev_for, ev_pass, ev_brk, ev_cont, ev_nope, wp_no, evT, evAnd, evOr, evTA, evTO, evP, evC, wp_bnd, wp_ret, wp_opt, wp_see, wp_add, wp_sub, wx_mul, wx_fdiv, wx_mod, wx_addS, wx_addT, wx_idxT, wx_idxL, wx_int, wx_abs, wx_lenL, wx_lenT, wx_lenS, wx_strI, wx_tupT, wx_tupL, wx_listT, wx_listL, wx_listS, wx_slcT, wx_slcL, wx_append, wx_pop0, wx_joinL, wx_split, wx_find, wp_newL, wp_setL, then_nx, then_rt, then_bk, then_ct, fin_rt, fin_nx, asg_name, asg_tup, asgs_nil, asgs_cons, le_line, lt_line, cop_eq, cop_ne, cop_lt, cop_le, cop_gt, cop_ge, cop_in, cop_notin, cop_is0, cop_is1, cop_is2, cop_is3, cop_is4, cop_is5, eq_int, eq_bl, eq_str, tru_non, tru_bl, tru_int, tru_tup, tru_ref, tn_non, tn_bl, tn_int, tn_str, tn_tup, tn_ref, isTn, mt_append, mt_pop0, mt_pop, mt_reverse, mt_clear, mt_join, mt_split, mt_find, mt_startswith, mt_partition, wk_tup, wk_str, wk_ref,
    rdL_cons0, rdL_ro0, rdL_succ, rdM_cons0, rdM_succ, List.map_cons, List.map_nil, List.replicate_succ, List.replicate_zero, List.cons_append, List.nil_append, List.append_nil, List.append_assoc, rdL_at, rdL_at0, rdM_at, rdM_at0, set_at, set_at0, List.length_append, Nat.add_assoc, List.getElem?_cons_succ, List.getElem?_cons_zero, List.set_cons_succ, List.set_cons_zero, Nat.reduceSub, Nat.reduceAdd, Option.map_some, Option.bind_some, Option.some.injEq, exists_eq_left', exists_eq_left, exists_eq', exists_and_left, exists_const, D.int.injEq, D.ref.injEq, D.str.injEq, D.bl.injEq, D.tup.injEq, true_and, and_true, List.length_cons, List.length_nil, atI_lit, ixN_lit, Nat.reduceLT, Nat.reduceLeDiff, Nat.reduceEqDiff, Int.reduceLT, Int.reduceLE, Int.reduceEq, Nat.lt_irrefl, Nat.zero_lt_succ, Nat.reduceMul, Int.reduceNeg, Bool.false_eq_true, if_true, if_false, Nat.zero_add, nlit, eq_self, decide_true, decide_false, reduceIte, Bool.or_false, Bool.false_or, Bool.true_or, Bool.or_true, Bool.and_true, Bool.true_and, Bool.and_false, Bool.false_and, Bool.not_true, Bool.not_false, List.all_cons, List.all_nil, List.any_cons, List.any_nil, List.isEmpty_cons]
      refine ⟨lgs (by omega) (by omega) (by omega) (by omega), lgd (by omega) (by omega), by omega, ?_⟩
      have hp : (0 : Int) < ((List.map D.int C').length + 1 : Nat) := by omega
      obtain ⟨d, hd, e⟩ := atI_map (f := D.int) (xs := c :: C') (i := (7 * (n + 1) + (n + 1) / 5) % ((List.map D.int C').length + 1 : Nat)) (Int.emod_nonneg _ (by omega)) (by
        have := Int.emod_lt_of_pos (7 * (n + 1) + (n + 1) / 5) hp
        simpa using this)
      have hcd := hC d hd
      refine ⟨.int d, e, ?_⟩
      simp only [wp_cons, wp_nil, wx_asgi, ev_lit, ev_var, ev_gl, ev_tup, ev_lst, ev_bin, ev_neg, ev_cmp, ev_chain, ev_and, ev_or, ev_not, ev_ifx, ev_idx, ev_slc, ev_call, ev_blt, ev_isi, ev_isis, ev_mth, ev_lc, ei_val, ei_rng1, ei_rng2, ei_zip, ei_enum, wx_addL, ev_fmt, ev_fstr, ev_tupRg1, ev_tupRg2, wp_fmtS, wp_fmtI, wp_fstr, wp_tupRg, wx_reverse, wp_neg, wp_rng1, wp_rng2, evEs, ev_asg, ev_ex, ev_ret, ev_retn, ev_iff, ev_for, ev_pass, ev_brk, ev_cont, ev_nope, wp_no, evT, evAnd, evOr, evTA, evTO, evP, evC, wp_bnd, wp_ret, wp_opt, wp_see, wp_add, wp_sub, wx_mul, wx_fdiv, wx_mod, wx_addS, wx_addT, wx_idxT, wx_idxL, wx_int, wx_abs, wx_lenL, wx_lenT, wx_lenS, wx_strI, wx_tupT, wx_tupL, wx_listT, wx_listL, wx_listS, wx_slcT, wx_slcL, wx_append, wx_pop0, wx_joinL, wx_split, wx_find, wp_newL, wp_setL, then_nx, then_rt, then_bk, then_ct, fin_rt, fin_nx, asg_name, asg_tup, asgs_nil, asgs_cons, le_line, lt_line, cop_eq, cop_ne, cop_lt, cop_le, cop_gt, cop_ge, cop_in, cop_notin, cop_is0, cop_is1, cop_is2, cop_is3, cop_is4, cop_is5, eq_int, eq_bl, eq_str, tru_non, tru_bl, tru_int, tru_tup, tru_ref, tn_non, tn_bl, tn_int, tn_str, tn_tup, tn_ref, isTn, mt_append, mt_pop0, mt_pop, mt_reverse, mt_clear, mt_join, mt_split, mt_find, mt_startswith, mt_partition, wk_tup, wk_str, wk_ref,
    rdL_cons0, rdL_ro0, rdL_succ, rdM_cons0, rdM_succ, List.map_cons, List.map_nil, List.replicate_succ, List.replicate_zero, List.cons_append, List.nil_append, List.append_nil, List.append_assoc, rdL_at, rdL_at0, rdM_at, rdM_at0, set_at, set_at0, List.length_append, Nat.add_assoc, List.getElem?_cons_succ, List.getElem?_cons_zero, List.set_cons_succ, List.set_cons_zero, Nat.reduceSub, Nat.reduceAdd, Option.map_some, Option.bind_some, Option.some.injEq, exists_eq_left', exists_eq_left, exists_eq', exists_and_left, exists_const, D.int.injEq, D.ref.injEq, D.str.injEq, D.bl.injEq, D.tup.injEq, true_and, and_true, List.length_cons, List.length_nil, atI_lit, ixN_lit, Nat.reduceLT, Nat.reduceLeDiff, Nat.reduceEqDiff, Int.reduceLT, Int.reduceLE, Int.reduceEq, Nat.lt_irrefl, Nat.zero_lt_succ, Nat.reduceMul, Int.reduceNeg, Bool.false_eq_true, if_true, if_false, Nat.zero_add, nlit, eq_self, decide_true, decide_false, reduceIte, Bool.or_false, Bool.false_or, Bool.true_or, Bool.or_true, Bool.and_true, Bool.true_and, Bool.and_false, Bool.false_and, Bool.not_true, Bool.not_false, List.all_cons, List.all_nil, List.any_cons, List.any_nil]
      refine ⟨lgs (by omega) (by omega) (by omega) (by omega), lgs (by omega) (by omega) (by omega) (by omega), lgs (by omega) (by omega) (by omega) (by omega), lgs (by omega) (by omega) (by omega) (by omega), lgs hs.1 hs.2 (by omega) (by omega), lgd (by omega) (by omega), lgs (by omega) (by omega) (by omega) (by omega), lgd (by omega) (by omega), by omega, ⟨Int.emod_nonneg _ (by omega), Int.emod_lt_of_pos _ hl.1⟩, [], rfl⟩
end
end My

/-! The law's rules drawn. -/
namespace My
open PySem PySem.Spec PyProof.Rows L2
def Asc (m : Int) (xs : List Int) : Prop := xs.Pairwise (· < ·) ∧ ∀ x ∈ xs, 0 ≤ x ∧ x < m
theorem Asc.nil {m : Int} : Asc m [] := ⟨.nil, fun x h => by cases h⟩
theorem Asc.snoc {m : Int} {xs : List Int} (hm : 0 ≤ m) (h : Asc m xs) : Asc (m + 1) (xs ++ [m]) := by
  refine ⟨List.pairwise_append.mpr ⟨h.1, List.pairwise_singleton _ _, fun a ha b hb => ?_⟩, fun x hx => ?_⟩
  · rw [List.mem_singleton.mp hb]; exact (h.2 a ha).2
  · rcases List.mem_append.mp hx with hx | hx
    · have := h.2 x hx; omega
    · rw [List.mem_singleton.mp hx]; omega
theorem Asc.mono {m m' : Int} {xs : List Int} (h : Asc m xs) (hm : m ≤ m') : Asc m' xs := ⟨h.1, fun x hx => by have := h.2 x hx; omega⟩
theorem Asc.len {m : Int} {xs : List Int} (h : Asc m xs) : xs.length ≤ m.toNat := by
  obtain ⟨h1, h2⟩ := h
  have : ∀ (l : List Int) (lo : Int), l.Pairwise (· < ·) → (∀ x ∈ l, lo ≤ x ∧ x < m) → l.length ≤ (m - lo).toNat := by
    intro l
    induction l with
    | nil => intros; simp
    | cons a l ih =>
      intro lo hp hb
      have ha := hb a List.mem_cons_self
      have := ih (a + 1) (List.pairwise_cons.mp hp).2 fun x hx => ⟨by have := (List.pairwise_cons.mp hp).1 x hx; omega, (hb x (List.mem_cons_of_mem _ hx)).2⟩
      simp only [List.length_cons]
      omega
  have := this xs 0 h1 h2
  simpa using this
theorem Asc.take {m : Int} {xs : List Int} (h : Asc m xs) (n : Nat) : Asc m (xs.take n) := ⟨h.1.sublist (List.take_sublist _ _), fun x hx => h.2 x (List.mem_of_mem_take hx)⟩
theorem rdL_mid {R X : Store} {xs : List D} : rdL (R ++ .lst xs :: X) R.length = some xs := by unfold rdL; simp
theorem rdM_mid {R X : Store} {xs : List D} : rdM (R ++ .lst xs :: X) R.length = some xs := by unfold rdM; simp
theorem set_mid {R X : Store} {o o' : Ob} : (R ++ o :: X).set R.length o' = R ++ o' :: X := by simp
theorem wx_rng1 {Γ : Tx} {ρ : Env} {a : E} {S : Store} {Q : Wk → Store → Prop} : Wp (evIt Γ (.rng1 a) ρ) S Q ↔ Wp (evE Γ a ρ) S fun x S1 => ∃ j, x = .int j ∧ inRng j = true ∧ Q (wkRng 0 j.toNat) S1 := by
  simp only [evIt, wp_bnd]
  constructor
  · intro g
    refine g.mono fun x S1 q => ?_
    cases x <;> first | (exact (wp_no.mp q).elim) | skip
    rename_i j
    by_cases h : inRng j = true
    · simp only [h, if_true, wp_ret] at q
      exact ⟨j, rfl, h, q⟩
    · simp only [h, Bool.false_eq_true, if_false, wp_no] at q
  · intro g
    refine g.mono fun x S1 q => ?_
    obtain ⟨j, rfl, h, q⟩ := q
    simp only [h, if_true, wp_ret]
    exact q
structure Wy where
  w : Int
  l : Int
  r : Int
  snd : Str
  eag : Bool
  look : Str
  kinds : List (List Int)
  act : List Int
def tupI (xs : List Int) : D := .tup (xs.map .int)
def Wy.d (W : Wy) : D := .tup [.int W.w, .int W.l, .int W.r, .str W.snd, .bl W.eag, .str W.look, .tup (W.kinds.map tupI), tupI W.act]
structure Wy.Ok (W : Wy) : Prop where
  w : 1 ≤ W.w ∧ W.w ≤ 3
  l : 1 ≤ W.l ∧ W.l ≤ 3
  r : 1 ≤ W.r ∧ W.r ≤ 3
  snd : W.snd = "whole" ∨ W.snd = "parts" ∨ W.snd = "filled"
  look : W.look = "into" ∨ W.look = "past" ∨ W.look = "first"
  kl : W.kinds.length ≤ 3
  kd : ∀ k ∈ W.kinds, Asc W.l k ∧ k ≠ []
  act : Asc (W.w * W.l) W.act
  al : W.act.length ≤ 2
section
variable {ds : List Df} {con : Str → Option D} {fuel k : Nat} {sc ce : List D} {G C : List Int} {n : Int} {R : Store}
/-- the items whose draw is 0 -/
theorem comp_draw (h : findD ds Lib.df__law_draw.name = some Lib.df__law_draw) (hC : ∀ c ∈ C, 0 ≤ c ∧ c < 1000000000000000000) (hCl : C.length ≤ 63) {ρ : Env} {v : Nat} {nm : Str} {q : Int} {m : Nat} (hn : 0 ≤ n ∧ n + m < 900000) (hm : m ≤ 1000)
    (hq : 0 < q ∧ q < 100000) (h0 : ρ[0]? = some (some (.ref 4))) (hv : v ≠ 0 ∧ v < ρ.length) {Q : D → Store → Prop}
    (hQ : ∀ xs G' n', Asc m xs → n ≤ n' ∧ n' ≤ n + m → Q (.ref (R.length + 5)) (pst sc ce G' C n' (R ++ [.lst (xs.map .int)]))) :
    Wp (compF (wkRng 0 m) (itemF ⟨callD ds con fuel (k + 1), con, fuel⟩ (.var v) (.name v) (.cons (.cmp .eq (.call "_law_draw" (.cons (.var 0) (.cons (.lit (.int q)) .nil))) (.lit (.int 0))) .nil) [(nm, v)] ρ) m 0 []) (pst sc ce G C n R) Q := by
  refine comp_wp (w := wkRng 0 m) (fun i acc S => ∃ xs G' n', acc = xs.map .int ∧ Asc i xs ∧ (n ≤ n' ∧ n' ≤ n + i) ∧ S = pst sc ce G' C n' R) (fun i acc S hi => ?_) (fun acc S => ?_) m 0 [] _ (by simp [wkRng]) ⟨[], G, n, rfl, .nil, by simp, rfl⟩
  · rintro ⟨xs, G', n', rfl, ha, hn', rfl⟩
    have hi : i < m := hi
    refine ⟨.int i, by simp [wkRng], ?_⟩
    have e0 : ((ρ.set v none).set v (some (.int i)))[0]? = some (some (.ref 4)) := by
      rw [List.getElem?_set_ne hv.1, List.getElem?_set_ne hv.1]; exact h0
    have ev : ((ρ.set v none).set v (some (D.int i)))[v]? = some (some (.int i)) := by
      rw [List.getElem?_set_self (by simpa using hv.2)]
    rw [wx_itemF]
    simp only [evC, evT, evE, evEs, wp_bnd, wp_ret, List.map_cons, List.map_nil, wipeD, e0, wp_see, copF, eqF, Option.map_some, Option.some.injEq, exists_eq_left', truF]
    refine (draw_ok h hC hCl (by omega) hq).mono ?_
    rintro a S1 ⟨x, rfl, hx, G2, rfl⟩
    simp only [Option.some.injEq, exists_eq_left', eqF, Option.map_some, truF, ev, wp_ret]
    refine ⟨fun hd => ?_, fun hd => ?_⟩
    · refine ⟨by simp; have := ha.len; have : (1000 : Nat) < sizeLine := by decide
                 omega, xs ++ [(i : Int)], G2, n' + 1, by simp, by have := ha.snoc (by omega); simpa using this, by omega, rfl⟩
    · exact ⟨xs, G2, n' + 1, rfl, ha.mono (by omega), by omega, rfl⟩
  · rintro ⟨xs, G', n', rfl, ha, hn', rfl⟩
    refine ⟨rfl, ?_⟩
    have := hQ xs G' n' ha hn'
    simpa [Nat.add_assoc] using this
end
end My

/-! The law's rules drawn: the rule. -/
namespace My
open PySem PySem.Spec PyProof.Rows L2
section
variable {ds : List Df} {con : Str → Option D} {fuel k : Nat} {sc ce : List D} {G C : List Int} {n : Int} {R : Store}
theorem ways_ok (h : findD ds Lib.df__law_draw.name = some Lib.df__law_draw) (h2 : findD ds Lib.df__law_ways.name = some Lib.df__law_ways) (hC : ∀ c ∈ C, 0 ≤ c ∧ c < 1000000000000000000) (hCl : C.length ≤ 63) (hn : 0 ≤ n ∧ n < 800000) :
    Wp (callD ds con fuel (k + 2) "_law_ways" [.ref 4, .int 3]) (pst sc ce G C n R) fun a S1 => ∃ W : Wy, W.Ok ∧ a = W.d ∧ ∃ G' n' X, (n ≤ n' ∧ n' ≤ n + 100) ∧ S1 = pst sc ce G' C n' (R ++ X) := by
  refine wp_call h2 rfl rfl ?_
  simp only [Lib.df__law_ways, Lib.b__law_ways]
  simp only [wp_cons, wp_nil, wx_asgi, ev_lit, ev_var, ev_gl, ev_tup, ev_lst, ev_bin, ev_neg, ev_cmp, ev_chain, ev_and, ev_or, ev_not, ev_ifx, ev_idx, ev_slc, ev_call, ev_blt, ev_isi, ev_isis, ev_mth, ev_lc, ei_val, ei_rng1, ei_rng2, ei_zip, ei_enum, wx_addL, ev_fmt, ev_fstr, ev_tupRg1, ev_tupRg2, wp_fmtS, wp_fmtI, wp_fstr, wp_tupRg, wx_reverse, wp_neg, wp_rng1, wp_rng2, evEs, ev_asg, ev_ex, ev_ret, ev_retn, ev_iff, ev_for, ev_pass, ev_brk, ev_cont, ev_nope, wp_no, evT, evAnd, evOr, evTA, evTO, evP, evC, wp_bnd, wp_ret, wp_opt, wp_see, wp_add, wp_sub, wx_mul, wx_fdiv, wx_mod, wx_addS, wx_addT, wx_idxT, wx_idxL, wx_int, wx_abs, wx_lenL, wx_lenT, wx_lenS, wx_strI, wx_tupT, wx_tupL, wx_listT, wx_listL, wx_listS, wx_slcT, wx_slcL, wx_append, wx_pop0, wx_joinL, wx_split, wx_find, wp_newL, wp_setL, then_nx, then_rt, then_bk, then_ct, fin_rt, fin_nx, asg_name, asg_tup, asgs_nil, asgs_cons, le_line, lt_line, cop_eq, cop_ne, cop_lt, cop_le, cop_gt, cop_ge, cop_in, cop_notin, cop_is0, cop_is1, cop_is2, cop_is3, cop_is4, cop_is5, eq_int, eq_bl, eq_str, tru_non, tru_bl, tru_int, tru_tup, tru_ref, tn_non, tn_bl, tn_int, tn_str, tn_tup, tn_ref, isTn, mt_append, mt_pop0, mt_pop, mt_reverse, mt_clear, mt_join, mt_split, mt_find, mt_startswith, mt_partition, wk_tup, wk_str, wk_ref,
    rdL_cons0, rdL_ro0, rdL_succ, rdM_cons0, rdM_succ, List.map_cons, List.map_nil, List.replicate_succ, List.replicate_zero, List.cons_append, List.nil_append, List.append_nil, List.append_assoc, rdL_at, rdL_at0, rdM_at, rdM_at0, set_at, set_at0, List.length_append, Nat.add_assoc, List.getElem?_cons_succ, List.getElem?_cons_zero, List.set_cons_succ, List.set_cons_zero, Nat.reduceSub, Nat.reduceAdd, Option.map_some, Option.bind_some, Option.some.injEq, exists_eq_left', exists_eq_left, exists_eq', exists_and_left, exists_const, D.int.injEq, D.ref.injEq, D.str.injEq, D.bl.injEq, D.tup.injEq, true_and, and_true, List.length_cons, List.length_nil, atI_lit, ixN_lit, Nat.reduceLT, Nat.reduceLeDiff, Nat.reduceEqDiff, Int.reduceLT, Int.reduceLE, Int.reduceEq, Nat.lt_irrefl, Nat.zero_lt_succ, Nat.reduceMul, Int.reduceNeg, Bool.false_eq_true, if_true, if_false, Nat.zero_add, nlit, eq_self, decide_true, decide_false, reduceIte, Bool.or_false, Bool.false_or, Bool.true_or, Bool.or_true, Bool.and_true, Bool.true_and, Bool.and_false, Bool.false_and, Bool.not_true, Bool.not_false, List.all_cons, List.all_nil, List.any_cons, List.any_nil]
  refine (draw_ok h hC hCl (by omega) (by omega)).mono ?_
  rintro _ _ ⟨w, rfl, hw, G1, rfl⟩
  simp only [wp_cons, wp_nil, wx_asgi, ev_lit, ev_var, ev_gl, ev_tup, ev_lst, ev_bin, ev_neg, ev_cmp, ev_chain, ev_and, ev_or, ev_not, ev_ifx, ev_idx, ev_slc, ev_call, ev_blt, ev_isi, ev_isis, ev_mth, ev_lc, ei_val, ei_rng1, ei_rng2, ei_zip, ei_enum, wx_addL, ev_fmt, ev_fstr, ev_tupRg1, ev_tupRg2, wp_fmtS, wp_fmtI, wp_fstr, wp_tupRg, wx_reverse, wp_neg, wp_rng1, wp_rng2, evEs, ev_asg, ev_ex, ev_ret, ev_retn, ev_iff, ev_for, ev_pass, ev_brk, ev_cont, ev_nope, wp_no, evT, evAnd, evOr, evTA, evTO, evP, evC, wp_bnd, wp_ret, wp_opt, wp_see, wp_add, wp_sub, wx_mul, wx_fdiv, wx_mod, wx_addS, wx_addT, wx_idxT, wx_idxL, wx_int, wx_abs, wx_lenL, wx_lenT, wx_lenS, wx_strI, wx_tupT, wx_tupL, wx_listT, wx_listL, wx_listS, wx_slcT, wx_slcL, wx_append, wx_pop0, wx_joinL, wx_split, wx_find, wp_newL, wp_setL, then_nx, then_rt, then_bk, then_ct, fin_rt, fin_nx, asg_name, asg_tup, asgs_nil, asgs_cons, le_line, lt_line, cop_eq, cop_ne, cop_lt, cop_le, cop_gt, cop_ge, cop_in, cop_notin, cop_is0, cop_is1, cop_is2, cop_is3, cop_is4, cop_is5, eq_int, eq_bl, eq_str, tru_non, tru_bl, tru_int, tru_tup, tru_ref, tn_non, tn_bl, tn_int, tn_str, tn_tup, tn_ref, isTn, mt_append, mt_pop0, mt_pop, mt_reverse, mt_clear, mt_join, mt_split, mt_find, mt_startswith, mt_partition, wk_tup, wk_str, wk_ref,
    rdL_cons0, rdL_ro0, rdL_succ, rdM_cons0, rdM_succ, List.map_cons, List.map_nil, List.replicate_succ, List.replicate_zero, List.cons_append, List.nil_append, List.append_nil, List.append_assoc, rdL_at, rdL_at0, rdM_at, rdM_at0, set_at, set_at0, List.length_append, Nat.add_assoc, List.getElem?_cons_succ, List.getElem?_cons_zero, List.set_cons_succ, List.set_cons_zero, Nat.reduceSub, Nat.reduceAdd, Option.map_some, Option.bind_some, Option.some.injEq, exists_eq_left', exists_eq_left, exists_eq', exists_and_left, exists_const, D.int.injEq, D.ref.injEq, D.str.injEq, D.bl.injEq, D.tup.injEq, true_and, and_true, List.length_cons, List.length_nil, atI_lit, ixN_lit, Nat.reduceLT, Nat.reduceLeDiff, Nat.reduceEqDiff, Int.reduceLT, Int.reduceLE, Int.reduceEq, Nat.lt_irrefl, Nat.zero_lt_succ, Nat.reduceMul, Int.reduceNeg, Bool.false_eq_true, if_true, if_false, Nat.zero_add, nlit, eq_self, decide_true, decide_false, reduceIte, Bool.or_false, Bool.false_or, Bool.true_or, Bool.or_true, Bool.and_true, Bool.true_and, Bool.and_false, Bool.false_and, Bool.not_true, Bool.not_false, List.all_cons, List.all_nil, List.any_cons, List.any_nil]
  refine (draw_ok h hC hCl (by omega) (by omega)).mono ?_
  rintro _ _ ⟨l, rfl, hl, G2, rfl⟩
  simp only [wp_cons, wp_nil, wx_asgi, ev_lit, ev_var, ev_gl, ev_tup, ev_lst, ev_bin, ev_neg, ev_cmp, ev_chain, ev_and, ev_or, ev_not, ev_ifx, ev_idx, ev_slc, ev_call, ev_blt, ev_isi, ev_isis, ev_mth, ev_lc, ei_val, ei_rng1, ei_rng2, ei_zip, ei_enum, wx_addL, ev_fmt, ev_fstr, ev_tupRg1, ev_tupRg2, wp_fmtS, wp_fmtI, wp_fstr, wp_tupRg, wx_reverse, wp_neg, wp_rng1, wp_rng2, evEs, ev_asg, ev_ex, ev_ret, ev_retn, ev_iff, ev_for, ev_pass, ev_brk, ev_cont, ev_nope, wp_no, evT, evAnd, evOr, evTA, evTO, evP, evC, wp_bnd, wp_ret, wp_opt, wp_see, wp_add, wp_sub, wx_mul, wx_fdiv, wx_mod, wx_addS, wx_addT, wx_idxT, wx_idxL, wx_int, wx_abs, wx_lenL, wx_lenT, wx_lenS, wx_strI, wx_tupT, wx_tupL, wx_listT, wx_listL, wx_listS, wx_slcT, wx_slcL, wx_append, wx_pop0, wx_joinL, wx_split, wx_find, wp_newL, wp_setL, then_nx, then_rt, then_bk, then_ct, fin_rt, fin_nx, asg_name, asg_tup, asgs_nil, asgs_cons, le_line, lt_line, cop_eq, cop_ne, cop_lt, cop_le, cop_gt, cop_ge, cop_in, cop_notin, cop_is0, cop_is1, cop_is2, cop_is3, cop_is4, cop_is5, eq_int, eq_bl, eq_str, tru_non, tru_bl, tru_int, tru_tup, tru_ref, tn_non, tn_bl, tn_int, tn_str, tn_tup, tn_ref, isTn, mt_append, mt_pop0, mt_pop, mt_reverse, mt_clear, mt_join, mt_split, mt_find, mt_startswith, mt_partition, wk_tup, wk_str, wk_ref,
    rdL_cons0, rdL_ro0, rdL_succ, rdM_cons0, rdM_succ, List.map_cons, List.map_nil, List.replicate_succ, List.replicate_zero, List.cons_append, List.nil_append, List.append_nil, List.append_assoc, rdL_at, rdL_at0, rdM_at, rdM_at0, set_at, set_at0, List.length_append, Nat.add_assoc, List.getElem?_cons_succ, List.getElem?_cons_zero, List.set_cons_succ, List.set_cons_zero, Nat.reduceSub, Nat.reduceAdd, Option.map_some, Option.bind_some, Option.some.injEq, exists_eq_left', exists_eq_left, exists_eq', exists_and_left, exists_const, D.int.injEq, D.ref.injEq, D.str.injEq, D.bl.injEq, D.tup.injEq, true_and, and_true, List.length_cons, List.length_nil, atI_lit, ixN_lit, Nat.reduceLT, Nat.reduceLeDiff, Nat.reduceEqDiff, Int.reduceLT, Int.reduceLE, Int.reduceEq, Nat.lt_irrefl, Nat.zero_lt_succ, Nat.reduceMul, Int.reduceNeg, Bool.false_eq_true, if_true, if_false, Nat.zero_add, nlit, eq_self, decide_true, decide_false, reduceIte, Bool.or_false, Bool.false_or, Bool.true_or, Bool.or_true, Bool.and_true, Bool.true_and, Bool.and_false, Bool.false_and, Bool.not_true, Bool.not_false, List.all_cons, List.all_nil, List.any_cons, List.any_nil]
  refine (draw_ok h hC hCl (by omega) (by omega)).mono ?_
  rintro _ _ ⟨r, rfl, hr, G3, rfl⟩
  simp only [wp_cons, wp_nil, wx_asgi, ev_lit, ev_var, ev_gl, ev_tup, ev_lst, ev_bin, ev_neg, ev_cmp, ev_chain, ev_and, ev_or, ev_not, ev_ifx, ev_idx, ev_slc, ev_call, ev_blt, ev_isi, ev_isis, ev_mth, ev_lc, ei_val, ei_rng1, ei_rng2, ei_zip, ei_enum, wx_addL, ev_fmt, ev_fstr, ev_tupRg1, ev_tupRg2, wp_fmtS, wp_fmtI, wp_fstr, wp_tupRg, wx_reverse, wp_neg, wp_rng1, wp_rng2, evEs, ev_asg, ev_ex, ev_ret, ev_retn, ev_iff, ev_for, ev_pass, ev_brk, ev_cont, ev_nope, wp_no, evT, evAnd, evOr, evTA, evTO, evP, evC, wp_bnd, wp_ret, wp_opt, wp_see, wp_add, wp_sub, wx_mul, wx_fdiv, wx_mod, wx_addS, wx_addT, wx_idxT, wx_idxL, wx_int, wx_abs, wx_lenL, wx_lenT, wx_lenS, wx_strI, wx_tupT, wx_tupL, wx_listT, wx_listL, wx_listS, wx_slcT, wx_slcL, wx_append, wx_pop0, wx_joinL, wx_split, wx_find, wp_newL, wp_setL, then_nx, then_rt, then_bk, then_ct, fin_rt, fin_nx, asg_name, asg_tup, asgs_nil, asgs_cons, le_line, lt_line, cop_eq, cop_ne, cop_lt, cop_le, cop_gt, cop_ge, cop_in, cop_notin, cop_is0, cop_is1, cop_is2, cop_is3, cop_is4, cop_is5, eq_int, eq_bl, eq_str, tru_non, tru_bl, tru_int, tru_tup, tru_ref, tn_non, tn_bl, tn_int, tn_str, tn_tup, tn_ref, isTn, mt_append, mt_pop0, mt_pop, mt_reverse, mt_clear, mt_join, mt_split, mt_find, mt_startswith, mt_partition, wk_tup, wk_str, wk_ref,
    rdL_cons0, rdL_ro0, rdL_succ, rdM_cons0, rdM_succ, List.map_cons, List.map_nil, List.replicate_succ, List.replicate_zero, List.cons_append, List.nil_append, List.append_nil, List.append_assoc, rdL_at, rdL_at0, rdM_at, rdM_at0, set_at, set_at0, List.length_append, Nat.add_assoc, List.getElem?_cons_succ, List.getElem?_cons_zero, List.set_cons_succ, List.set_cons_zero, Nat.reduceSub, Nat.reduceAdd, Option.map_some, Option.bind_some, Option.some.injEq, exists_eq_left', exists_eq_left, exists_eq', exists_and_left, exists_const, D.int.injEq, D.ref.injEq, D.str.injEq, D.bl.injEq, D.tup.injEq, true_and, and_true, List.length_cons, List.length_nil, atI_lit, ixN_lit, Nat.reduceLT, Nat.reduceLeDiff, Nat.reduceEqDiff, Int.reduceLT, Int.reduceLE, Int.reduceEq, Nat.lt_irrefl, Nat.zero_lt_succ, Nat.reduceMul, Int.reduceNeg, Bool.false_eq_true, if_true, if_false, Nat.zero_add, nlit, eq_self, decide_true, decide_false, reduceIte, Bool.or_false, Bool.false_or, Bool.true_or, Bool.or_true, Bool.and_true, Bool.true_and, Bool.and_false, Bool.false_and, Bool.not_true, Bool.not_false, List.all_cons, List.all_nil, List.any_cons, List.any_nil]
  refine (draw_ok h hC hCl (by omega) (by omega)).mono ?_
  rintro _ _ ⟨x1, rfl, hx1, G4, rfl⟩
  simp only [wp_cons, wp_nil, wx_asgi, ev_lit, ev_var, ev_gl, ev_tup, ev_lst, ev_bin, ev_neg, ev_cmp, ev_chain, ev_and, ev_or, ev_not, ev_ifx, ev_idx, ev_slc, ev_call, ev_blt, ev_isi, ev_isis, ev_mth, ev_lc, ei_val, ei_rng1, ei_rng2, ei_zip, ei_enum, wx_addL, ev_fmt, ev_fstr, ev_tupRg1, ev_tupRg2, wp_fmtS, wp_fmtI, wp_fstr, wp_tupRg, wx_reverse, wp_neg, wp_rng1, wp_rng2, evEs, ev_asg, ev_ex, ev_ret, ev_retn, ev_iff, ev_for, ev_pass, ev_brk, ev_cont, ev_nope, wp_no, evT, evAnd, evOr, evTA, evTO, evP, evC, wp_bnd, wp_ret, wp_opt, wp_see, wp_add, wp_sub, wx_mul, wx_fdiv, wx_mod, wx_addS, wx_addT, wx_idxT, wx_idxL, wx_int, wx_abs, wx_lenL, wx_lenT, wx_lenS, wx_strI, wx_tupT, wx_tupL, wx_listT, wx_listL, wx_listS, wx_slcT, wx_slcL, wx_append, wx_pop0, wx_joinL, wx_split, wx_find, wp_newL, wp_setL, then_nx, then_rt, then_bk, then_ct, fin_rt, fin_nx, asg_name, asg_tup, asgs_nil, asgs_cons, le_line, lt_line, cop_eq, cop_ne, cop_lt, cop_le, cop_gt, cop_ge, cop_in, cop_notin, cop_is0, cop_is1, cop_is2, cop_is3, cop_is4, cop_is5, eq_int, eq_bl, eq_str, tru_non, tru_bl, tru_int, tru_tup, tru_ref, tn_non, tn_bl, tn_int, tn_str, tn_tup, tn_ref, isTn, mt_append, mt_pop0, mt_pop, mt_reverse, mt_clear, mt_join, mt_split, mt_find, mt_startswith, mt_partition, wk_tup, wk_str, wk_ref,
    rdL_cons0, rdL_ro0, rdL_succ, rdM_cons0, rdM_succ, List.map_cons, List.map_nil, List.replicate_succ, List.replicate_zero, List.cons_append, List.nil_append, List.append_nil, List.append_assoc, rdL_at, rdL_at0, rdM_at, rdM_at0, set_at, set_at0, List.length_append, Nat.add_assoc, List.getElem?_cons_succ, List.getElem?_cons_zero, List.set_cons_succ, List.set_cons_zero, Nat.reduceSub, Nat.reduceAdd, Option.map_some, Option.bind_some, Option.some.injEq, exists_eq_left', exists_eq_left, exists_eq', exists_and_left, exists_const, D.int.injEq, D.ref.injEq, D.str.injEq, D.bl.injEq, D.tup.injEq, true_and, and_true, List.length_cons, List.length_nil, atI_lit, ixN_lit, Nat.reduceLT, Nat.reduceLeDiff, Nat.reduceEqDiff, Int.reduceLT, Int.reduceLE, Int.reduceEq, Nat.lt_irrefl, Nat.zero_lt_succ, Nat.reduceMul, Int.reduceNeg, Bool.false_eq_true, if_true, if_false, Nat.zero_add, nlit, eq_self, decide_true, decide_false, reduceIte, Bool.or_false, Bool.false_or, Bool.true_or, Bool.or_true, Bool.and_true, Bool.true_and, Bool.and_false, Bool.false_and, Bool.not_true, Bool.not_false, List.all_cons, List.all_nil, List.any_cons, List.any_nil]
  obtain ⟨snd, es, hs⟩ : ∃ snd : Str, atI [D.str (Str.ofString "whole"), D.str (Str.ofString "parts"), D.str (Str.ofString "filled")] x1 = some (.str snd) ∧ (snd = "whole" ∨ snd = "parts" ∨ snd = "filled") := by
    obtain rfl | rfl | rfl : x1 = 0 ∨ x1 = 1 ∨ x1 = 2 := by omega
    · exact ⟨_, rfl, .inl rfl⟩
    · exact ⟨_, rfl, .inr (.inl rfl)⟩
    · exact ⟨_, rfl, .inr (.inr rfl)⟩
  refine ⟨_, es, ?_⟩
  refine (draw_ok h hC hCl (by omega) (by omega)).mono ?_
  rintro _ _ ⟨x2, rfl, hx2, G5, rfl⟩
  simp only [wp_cons, wp_nil, wx_asgi, ev_lit, ev_var, ev_gl, ev_tup, ev_lst, ev_bin, ev_neg, ev_cmp, ev_chain, ev_and, ev_or, ev_not, ev_ifx, ev_idx, ev_slc, ev_call, ev_blt, ev_isi, ev_isis, ev_mth, ev_lc, ei_val, ei_rng1, ei_rng2, ei_zip, ei_enum, wx_addL, ev_fmt, ev_fstr, ev_tupRg1, ev_tupRg2, wp_fmtS, wp_fmtI, wp_fstr, wp_tupRg, wx_reverse, wp_neg, wp_rng1, wp_rng2, evEs, ev_asg, ev_ex, ev_ret, ev_retn, ev_iff, ev_for, ev_pass, ev_brk, ev_cont, ev_nope, wp_no, evT, evAnd, evOr, evTA, evTO, evP, evC, wp_bnd, wp_ret, wp_opt, wp_see, wp_add, wp_sub, wx_mul, wx_fdiv, wx_mod, wx_addS, wx_addT, wx_idxT, wx_idxL, wx_int, wx_abs, wx_lenL, wx_lenT, wx_lenS, wx_strI, wx_tupT, wx_tupL, wx_listT, wx_listL, wx_listS, wx_slcT, wx_slcL, wx_append, wx_pop0, wx_joinL, wx_split, wx_find, wp_newL, wp_setL, then_nx, then_rt, then_bk, then_ct, fin_rt, fin_nx, asg_name, asg_tup, asgs_nil, asgs_cons, le_line, lt_line, cop_eq, cop_ne, cop_lt, cop_le, cop_gt, cop_ge, cop_in, cop_notin, cop_is0, cop_is1, cop_is2, cop_is3, cop_is4, cop_is5, eq_int, eq_bl, eq_str, tru_non, tru_bl, tru_int, tru_tup, tru_ref, tn_non, tn_bl, tn_int, tn_str, tn_tup, tn_ref, isTn, mt_append, mt_pop0, mt_pop, mt_reverse, mt_clear, mt_join, mt_split, mt_find, mt_startswith, mt_partition, wk_tup, wk_str, wk_ref,
    rdL_cons0, rdL_ro0, rdL_succ, rdM_cons0, rdM_succ, List.map_cons, List.map_nil, List.replicate_succ, List.replicate_zero, List.cons_append, List.nil_append, List.append_nil, List.append_assoc, rdL_at, rdL_at0, rdM_at, rdM_at0, set_at, set_at0, List.length_append, Nat.add_assoc, List.getElem?_cons_succ, List.getElem?_cons_zero, List.set_cons_succ, List.set_cons_zero, Nat.reduceSub, Nat.reduceAdd, Option.map_some, Option.bind_some, Option.some.injEq, exists_eq_left', exists_eq_left, exists_eq', exists_and_left, exists_const, D.int.injEq, D.ref.injEq, D.str.injEq, D.bl.injEq, D.tup.injEq, true_and, and_true, List.length_cons, List.length_nil, atI_lit, ixN_lit, Nat.reduceLT, Nat.reduceLeDiff, Nat.reduceEqDiff, Int.reduceLT, Int.reduceLE, Int.reduceEq, Nat.lt_irrefl, Nat.zero_lt_succ, Nat.reduceMul, Int.reduceNeg, Bool.false_eq_true, if_true, if_false, Nat.zero_add, nlit, eq_self, decide_true, decide_false, reduceIte, Bool.or_false, Bool.false_or, Bool.true_or, Bool.or_true, Bool.and_true, Bool.true_and, Bool.and_false, Bool.false_and, Bool.not_true, Bool.not_false, List.all_cons, List.all_nil, List.any_cons, List.any_nil]
  refine (draw_ok h hC hCl (by omega) (by omega)).mono ?_
  rintro _ _ ⟨x3, rfl, hx3, G6, rfl⟩
  simp only [wp_cons, wp_nil, wx_asgi, ev_lit, ev_var, ev_gl, ev_tup, ev_lst, ev_bin, ev_neg, ev_cmp, ev_chain, ev_and, ev_or, ev_not, ev_ifx, ev_idx, ev_slc, ev_call, ev_blt, ev_isi, ev_isis, ev_mth, ev_lc, ei_val, ei_rng1, ei_rng2, ei_zip, ei_enum, wx_addL, ev_fmt, ev_fstr, ev_tupRg1, ev_tupRg2, wp_fmtS, wp_fmtI, wp_fstr, wp_tupRg, wx_reverse, wp_neg, wp_rng1, wp_rng2, evEs, ev_asg, ev_ex, ev_ret, ev_retn, ev_iff, ev_for, ev_pass, ev_brk, ev_cont, ev_nope, wp_no, evT, evAnd, evOr, evTA, evTO, evP, evC, wp_bnd, wp_ret, wp_opt, wp_see, wp_add, wp_sub, wx_mul, wx_fdiv, wx_mod, wx_addS, wx_addT, wx_idxT, wx_idxL, wx_int, wx_abs, wx_lenL, wx_lenT, wx_lenS, wx_strI, wx_tupT, wx_tupL, wx_listT, wx_listL, wx_listS, wx_slcT, wx_slcL, wx_append, wx_pop0, wx_joinL, wx_split, wx_find, wp_newL, wp_setL, then_nx, then_rt, then_bk, then_ct, fin_rt, fin_nx, asg_name, asg_tup, asgs_nil, asgs_cons, le_line, lt_line, cop_eq, cop_ne, cop_lt, cop_le, cop_gt, cop_ge, cop_in, cop_notin, cop_is0, cop_is1, cop_is2, cop_is3, cop_is4, cop_is5, eq_int, eq_bl, eq_str, tru_non, tru_bl, tru_int, tru_tup, tru_ref, tn_non, tn_bl, tn_int, tn_str, tn_tup, tn_ref, isTn, mt_append, mt_pop0, mt_pop, mt_reverse, mt_clear, mt_join, mt_split, mt_find, mt_startswith, mt_partition, wk_tup, wk_str, wk_ref,
    rdL_cons0, rdL_ro0, rdL_succ, rdM_cons0, rdM_succ, List.map_cons, List.map_nil, List.replicate_succ, List.replicate_zero, List.cons_append, List.nil_append, List.append_nil, List.append_assoc, rdL_at, rdL_at0, rdM_at, rdM_at0, set_at, set_at0, List.length_append, Nat.add_assoc, List.getElem?_cons_succ, List.getElem?_cons_zero, List.set_cons_succ, List.set_cons_zero, Nat.reduceSub, Nat.reduceAdd, Option.map_some, Option.bind_some, Option.some.injEq, exists_eq_left', exists_eq_left, exists_eq', exists_and_left, exists_const, D.int.injEq, D.ref.injEq, D.str.injEq, D.bl.injEq, D.tup.injEq, true_and, and_true, List.length_cons, List.length_nil, atI_lit, ixN_lit, Nat.reduceLT, Nat.reduceLeDiff, Nat.reduceEqDiff, Int.reduceLT, Int.reduceLE, Int.reduceEq, Nat.lt_irrefl, Nat.zero_lt_succ, Nat.reduceMul, Int.reduceNeg, Bool.false_eq_true, if_true, if_false, Nat.zero_add, nlit, eq_self, decide_true, decide_false, reduceIte, Bool.or_false, Bool.false_or, Bool.true_or, Bool.or_true, Bool.and_true, Bool.true_and, Bool.and_false, Bool.false_and, Bool.not_true, Bool.not_false, List.all_cons, List.all_nil, List.any_cons, List.any_nil]
  obtain ⟨look, el, hlk⟩ : ∃ snd : Str, atI [D.str (Str.ofString "into"), D.str (Str.ofString "past"), D.str (Str.ofString "first")] x3 = some (.str snd) ∧ (snd = "into" ∨ snd = "past" ∨ snd = "first") := by
    obtain rfl | rfl | rfl : x3 = 0 ∨ x3 = 1 ∨ x3 = 2 := by omega
    · exact ⟨_, rfl, .inl rfl⟩
    · exact ⟨_, rfl, .inr (.inl rfl)⟩
    · exact ⟨_, rfl, .inr (.inr rfl)⟩
  refine ⟨_, el, ?_⟩
  refine (draw_ok h hC hCl (by omega) (by omega)).mono ?_
  rintro _ _ ⟨m, rfl, hm, G7, rfl⟩
  simp only [wp_cons, wp_nil, wx_asgi, ev_lit, ev_var, ev_gl, ev_tup, ev_lst, ev_bin, ev_neg, ev_cmp, ev_chain, ev_and, ev_or, ev_not, ev_ifx, ev_idx, ev_slc, ev_call, ev_blt, ev_isi, ev_isis, ev_mth, ev_lc, ei_val, ei_rng1, ei_rng2, ei_zip, ei_enum, wx_addL, ev_fmt, ev_fstr, ev_tupRg1, ev_tupRg2, wp_fmtS, wp_fmtI, wp_fstr, wp_tupRg, wx_reverse, wp_neg, wp_rng1, wp_rng2, evEs, ev_asg, ev_ex, ev_ret, ev_retn, ev_iff, ev_for, ev_pass, ev_brk, ev_cont, ev_nope, wp_no, evT, evAnd, evOr, evTA, evTO, evP, evC, wp_bnd, wp_ret, wp_opt, wp_see, wp_add, wp_sub, wx_mul, wx_fdiv, wx_mod, wx_addS, wx_addT, wx_idxT, wx_idxL, wx_int, wx_abs, wx_lenL, wx_lenT, wx_lenS, wx_strI, wx_tupT, wx_tupL, wx_listT, wx_listL, wx_listS, wx_slcT, wx_slcL, wx_append, wx_pop0, wx_joinL, wx_split, wx_find, wp_newL, wp_setL, then_nx, then_rt, then_bk, then_ct, fin_rt, fin_nx, asg_name, asg_tup, asgs_nil, asgs_cons, le_line, lt_line, cop_eq, cop_ne, cop_lt, cop_le, cop_gt, cop_ge, cop_in, cop_notin, cop_is0, cop_is1, cop_is2, cop_is3, cop_is4, cop_is5, eq_int, eq_bl, eq_str, tru_non, tru_bl, tru_int, tru_tup, tru_ref, tn_non, tn_bl, tn_int, tn_str, tn_tup, tn_ref, isTn, mt_append, mt_pop0, mt_pop, mt_reverse, mt_clear, mt_join, mt_split, mt_find, mt_startswith, mt_partition, wk_tup, wk_str, wk_ref,
    rdL_cons0, rdL_ro0, rdL_succ, rdM_cons0, rdM_succ, List.map_cons, List.map_nil, List.replicate_succ, List.replicate_zero, List.cons_append, List.nil_append, List.append_nil, List.append_assoc, rdL_at, rdL_at0, rdM_at, rdM_at0, set_at, set_at0, List.length_append, Nat.add_assoc, List.getElem?_cons_succ, List.getElem?_cons_zero, List.set_cons_succ, List.set_cons_zero, Nat.reduceSub, Nat.reduceAdd, Option.map_some, Option.bind_some, Option.some.injEq, exists_eq_left', exists_eq_left, exists_eq', exists_and_left, exists_const, D.int.injEq, D.ref.injEq, D.str.injEq, D.bl.injEq, D.tup.injEq, true_and, and_true, List.length_cons, List.length_nil, atI_lit, ixN_lit, Nat.reduceLT, Nat.reduceLeDiff, Nat.reduceEqDiff, Int.reduceLT, Int.reduceLE, Int.reduceEq, Nat.lt_irrefl, Nat.zero_lt_succ, Nat.reduceMul, Int.reduceNeg, Bool.false_eq_true, if_true, if_false, Nat.zero_add, nlit, eq_self, decide_true, decide_false, reduceIte, Bool.or_false, Bool.false_or, Bool.true_or, Bool.or_true, Bool.and_true, Bool.true_and, Bool.and_false, Bool.false_and, Bool.not_true, Bool.not_false, List.all_cons, List.all_nil, List.any_cons, List.any_nil]
  refine ⟨by unfold inRng; exact decide_eq_true (by omega), ?_⟩
  generalize ha : Ob.lst [D.str (Str.ofString "whole"), D.str (Str.ofString "parts"), D.str (Str.ofString "filled")] = oa
  generalize hb : Ob.lst [D.str (Str.ofString "into"), D.str (Str.ofString "past"), D.str (Str.ofString "first")] = ob
  obtain ⟨I, hI⟩ : ∃ I : Nat → Env → Store → Prop, ∀ i ρ S, I i ρ S ↔ (∃ (a9 a11 : Option D) (kinds : List (List Int)) (G' : List Int) (n' : Int) (X : Store), ρ = [some (D.ref 4), some (D.int 3), some (D.int (1 + w)), some (D.int (1 + l)), some (D.int (1 + r)),
          some (D.str snd), some (D.bl (decide (x2 = 1))), some (D.str look), some (D.ref (List.length R + 7)), a9, none, a11, none, none] ∧ kinds.length = i ∧ (∀ kd ∈ kinds, Asc (1 + l) kd ∧ kd ≠ []) ∧ (n + 7 ≤ n' ∧ n' ≤ n + 7 + 4 * i) ∧ S = pst sc ce G' C n' (R ++ oa :: ob :: .lst (kinds.map tupI) :: X)) := ⟨_, fun _ _ _ => Iff.rfl⟩
  refine loop_wp (w := wkRng 0 m.toNat) I (fun i ρ S hi hh => ?_) (fun ρ S hh => ?_) m.toNat 0 _ _ (by simp [wkRng]) ((hI _ _ _).mpr ⟨none, none, [], G7, _, [], rfl, rfl, (fun _ h => by cases h), by omega, rfl⟩)
  · obtain ⟨a9, a11, kinds, G8, n8, X, rfl, rfl, hk, hn8, rfl⟩ := (hI _ _ _).mp hh
    have hi : kinds.length < m.toNat := hi
    refine ⟨.int kinds.length, by simp [wkRng], ?_⟩
    obtain ⟨R8, hR8⟩ : ∃ R8, R8 = R ++ oa :: ob :: .lst (kinds.map tupI) :: X := ⟨_, rfl⟩
    rw [← hR8]
    rw [wx_stepF]
    simp only [wp_cons, wp_nil, wx_asgi, ev_lit, ev_var, ev_gl, ev_tup, ev_lst, ev_bin, ev_neg, ev_cmp, ev_chain, ev_and, ev_or, ev_not, ev_ifx, ev_idx, ev_slc, ev_call, ev_blt, ev_isi, ev_isis, ev_mth, ev_lc, ei_val, ei_rng1, ei_rng2, ei_zip, ei_enum, wx_addL, ev_fmt, ev_fstr, ev_tupRg1, ev_tupRg2, wp_fmtS, wp_fmtI, wp_fstr, wp_tupRg, wx_reverse, wp_neg, wp_rng1, wp_rng2, evEs, ev_asg, ev_ex, ev_ret, ev_retn, ev_iff, ev_for, ev_pass, ev_brk, ev_cont, ev_nope, wp_no, evT, evAnd, evOr, evTA, evTO, evP, evC, wp_bnd, wp_ret, wp_opt, wp_see, wp_add, wp_sub, wx_mul, wx_fdiv, wx_mod, wx_addS, wx_addT, wx_idxT, wx_idxL, wx_int, wx_abs, wx_lenL, wx_lenT, wx_lenS, wx_strI, wx_tupT, wx_tupL, wx_listT, wx_listL, wx_listS, wx_slcT, wx_slcL, wx_append, wx_pop0, wx_joinL, wx_split, wx_find, wp_newL, wp_setL, then_nx, then_rt, then_bk, then_ct, fin_rt, fin_nx, asg_name, asg_tup, asgs_nil, asgs_cons, le_line, lt_line, cop_eq, cop_ne, cop_lt, cop_le, cop_gt, cop_ge, cop_in, cop_notin, cop_is0, cop_is1, cop_is2, cop_is3, cop_is4, cop_is5, eq_int, eq_bl, eq_str, tru_non, tru_bl, tru_int, tru_tup, tru_ref, tn_non, tn_bl, tn_int, tn_str, tn_tup, tn_ref, isTn, mt_append, mt_pop0, mt_pop, mt_reverse, mt_clear, mt_join, mt_split, mt_find, mt_startswith, mt_partition, wk_tup, wk_str, wk_ref,
    rdL_cons0, rdL_ro0, rdL_succ, rdM_cons0, rdM_succ, List.map_cons, List.map_nil, List.replicate_succ, List.replicate_zero, List.cons_append, List.nil_append, List.append_nil, List.append_assoc, rdL_at, rdL_at0, rdM_at, rdM_at0, set_at, set_at0, List.length_append, Nat.add_assoc, List.getElem?_cons_succ, List.getElem?_cons_zero, List.set_cons_succ, List.set_cons_zero, Nat.reduceSub, Nat.reduceAdd, Option.map_some, Option.bind_some, Option.some.injEq, exists_eq_left', exists_eq_left, exists_eq', exists_and_left, exists_const, D.int.injEq, D.ref.injEq, D.str.injEq, D.bl.injEq, D.tup.injEq, true_and, and_true, List.length_cons, List.length_nil, atI_lit, ixN_lit, Nat.reduceLT, Nat.reduceLeDiff, Nat.reduceEqDiff, Int.reduceLT, Int.reduceLE, Int.reduceEq, Nat.lt_irrefl, Nat.zero_lt_succ, Nat.reduceMul, Int.reduceNeg, Bool.false_eq_true, if_true, if_false, Nat.zero_add, nlit, eq_self, decide_true, decide_false, reduceIte, Bool.or_false, Bool.false_or, Bool.true_or, Bool.or_true, Bool.and_true, Bool.true_and, Bool.and_false, Bool.false_and, Bool.not_true, Bool.not_false, List.all_cons, List.all_nil, List.any_cons, List.any_nil]
    refine ⟨by unfold inRng; exact decide_eq_true (by omega), ?_⟩
    refine comp_draw h hC hCl (m := (1 + l).toNat) (by omega) (by omega) (by omega) rfl ⟨by decide, by simp⟩ fun xs G9 n9 hx hn9 => ?_
    simp only [wp_cons, wp_nil, wx_asgi, ev_lit, ev_var, ev_gl, ev_tup, ev_lst, ev_bin, ev_neg, ev_cmp, ev_chain, ev_and, ev_or, ev_not, ev_ifx, ev_idx, ev_slc, ev_call, ev_blt, ev_isi, ev_isis, ev_mth, ev_lc, ei_val, ei_rng1, ei_rng2, ei_zip, ei_enum, wx_addL, ev_fmt, ev_fstr, ev_tupRg1, ev_tupRg2, wp_fmtS, wp_fmtI, wp_fstr, wp_tupRg, wx_reverse, wp_neg, wp_rng1, wp_rng2, evEs, ev_asg, ev_ex, ev_ret, ev_retn, ev_iff, ev_for, ev_pass, ev_brk, ev_cont, ev_nope, wp_no, evT, evAnd, evOr, evTA, evTO, evP, evC, wp_bnd, wp_ret, wp_opt, wp_see, wp_add, wp_sub, wx_mul, wx_fdiv, wx_mod, wx_addS, wx_addT, wx_idxT, wx_idxL, wx_int, wx_abs, wx_lenL, wx_lenT, wx_lenS, wx_strI, wx_tupT, wx_tupL, wx_listT, wx_listL, wx_listS, wx_slcT, wx_slcL, wx_append, wx_pop0, wx_joinL, wx_split, wx_find, wp_newL, wp_setL, then_nx, then_rt, then_bk, then_ct, fin_rt, fin_nx, asg_name, asg_tup, asgs_nil, asgs_cons, le_line, lt_line, cop_eq, cop_ne, cop_lt, cop_le, cop_gt, cop_ge, cop_in, cop_notin, cop_is0, cop_is1, cop_is2, cop_is3, cop_is4, cop_is5, eq_int, eq_bl, eq_str, tru_non, tru_bl, tru_int, tru_tup, tru_ref, tn_non, tn_bl, tn_int, tn_str, tn_tup, tn_ref, isTn, mt_append, mt_pop0, mt_pop, mt_reverse, mt_clear, mt_join, mt_split, mt_find, mt_startswith, mt_partition, wk_tup, wk_str, wk_ref,
    rdL_cons0, rdL_ro0, rdL_succ, rdM_cons0, rdM_succ, List.map_cons, List.map_nil, List.replicate_succ, List.replicate_zero, List.cons_append, List.nil_append, List.append_nil, List.append_assoc, rdL_at, rdL_at0, rdM_at, rdM_at0, set_at, set_at0, List.length_append, Nat.add_assoc, List.getElem?_cons_succ, List.getElem?_cons_zero, List.set_cons_succ, List.set_cons_zero, Nat.reduceSub, Nat.reduceAdd, Option.map_some, Option.bind_some, Option.some.injEq, exists_eq_left', exists_eq_left, exists_eq', exists_and_left, exists_const, D.int.injEq, D.ref.injEq, D.str.injEq, D.bl.injEq, D.tup.injEq, true_and, and_true, List.length_cons, List.length_nil, atI_lit, ixN_lit, Nat.reduceLT, Nat.reduceLeDiff, Nat.reduceEqDiff, Int.reduceLT, Int.reduceLE, Int.reduceEq, Nat.lt_irrefl, Nat.zero_lt_succ, Nat.reduceMul, Int.reduceNeg, Bool.false_eq_true, if_true, if_false, Nat.zero_add, nlit, eq_self, decide_true, decide_false, reduceIte, Bool.or_false, Bool.false_or, Bool.true_or, Bool.or_true, Bool.and_true, Bool.true_and, Bool.and_false, Bool.false_and, Bool.not_true, Bool.not_false, List.all_cons, List.all_nil, List.any_cons, List.any_nil]
    have hx : Asc (1 + l) xs := by
      have e : ((1 + l).toNat : Int) = 1 + l := Int.toNat_of_nonneg (by omega)
      rw [← e]; exact hx
    cases xs with
    | nil =>
      simp only [wp_cons, wp_nil, wx_asgi, ev_lit, ev_var, ev_gl, ev_tup, ev_lst, ev_bin, ev_neg, ev_cmp, ev_chain, ev_and, ev_or, ev_not, ev_ifx, ev_idx, ev_slc, ev_call, ev_blt, ev_isi, ev_isis, ev_mth, ev_lc, ei_val, ei_rng1, ei_rng2, ei_zip, ei_enum, wx_addL, ev_fmt, ev_fstr, ev_tupRg1, ev_tupRg2, wp_fmtS, wp_fmtI, wp_fstr, wp_tupRg, wx_reverse, wp_neg, wp_rng1, wp_rng2, evEs, ev_asg, ev_ex, ev_ret, ev_retn, ev_iff, ev_for, ev_pass, ev_brk, ev_cont, ev_nope, wp_no, evT, evAnd, evOr, evTA, evTO, evP, evC, wp_bnd, wp_ret, wp_opt, wp_see, wp_add, wp_sub, wx_mul, wx_fdiv, wx_mod, wx_addS, wx_addT, wx_idxT, wx_idxL, wx_int, wx_abs, wx_lenL, wx_lenT, wx_lenS, wx_strI, wx_tupT, wx_tupL, wx_listT, wx_listL, wx_listS, wx_slcT, wx_slcL, wx_append, wx_pop0, wx_joinL, wx_split, wx_find, wp_newL, wp_setL, then_nx, then_rt, then_bk, then_ct, fin_rt, fin_nx, asg_name, asg_tup, asgs_nil, asgs_cons, le_line, lt_line, cop_eq, cop_ne, cop_lt, cop_le, cop_gt, cop_ge, cop_in, cop_notin, cop_is0, cop_is1, cop_is2, cop_is3, cop_is4, cop_is5, eq_int, eq_bl, eq_str, tru_non, tru_bl, tru_int, tru_tup, tru_ref, tn_non, tn_bl, tn_int, tn_str, tn_tup, tn_ref, isTn, mt_append, mt_pop0, mt_pop, mt_reverse, mt_clear, mt_join, mt_split, mt_find, mt_startswith, mt_partition, wk_tup, wk_str, wk_ref,
    rdL_cons0, rdL_ro0, rdL_succ, rdM_cons0, rdM_succ, List.map_cons, List.map_nil, List.replicate_succ, List.replicate_zero, List.cons_append, List.nil_append, List.append_nil, List.append_assoc, rdL_at, rdL_at0, rdM_at, rdM_at0, set_at, set_at0, List.length_append, Nat.add_assoc, List.getElem?_cons_succ, List.getElem?_cons_zero, List.set_cons_succ, List.set_cons_zero, Nat.reduceSub, Nat.reduceAdd, Option.map_some, Option.bind_some, Option.some.injEq, exists_eq_left', exists_eq_left, exists_eq', exists_and_left, exists_const, D.int.injEq, D.ref.injEq, D.str.injEq, D.bl.injEq, D.tup.injEq, true_and, and_true, List.length_cons, List.length_nil, atI_lit, ixN_lit, Nat.reduceLT, Nat.reduceLeDiff, Nat.reduceEqDiff, Int.reduceLT, Int.reduceLE, Int.reduceEq, Nat.lt_irrefl, Nat.zero_lt_succ, Nat.reduceMul, Int.reduceNeg, Bool.false_eq_true, if_true, if_false, Nat.zero_add, nlit, eq_self, decide_true, decide_false, reduceIte, Bool.or_false, Bool.false_or, Bool.true_or, Bool.or_true, Bool.and_true, Bool.true_and, Bool.and_false, Bool.false_and, Bool.not_true, Bool.not_false, List.all_cons, List.all_nil, List.any_cons, List.any_nil, List.isEmpty_nil]
      refine (draw_ok h hC hCl (by omega) (by omega)).mono ?_
      rintro _ _ ⟨z, rfl, hz, G10, rfl⟩
      simp only [wp_cons, wp_nil, wx_asgi, ev_lit, ev_var, ev_gl, ev_tup, ev_lst, ev_bin, ev_neg, ev_cmp, ev_chain, ev_and, ev_or, ev_not, ev_ifx, ev_idx, ev_slc, ev_call, ev_blt, ev_isi, ev_isis, ev_mth, ev_lc, ei_val, ei_rng1, ei_rng2, ei_zip, ei_enum, wx_addL, ev_fmt, ev_fstr, ev_tupRg1, ev_tupRg2, wp_fmtS, wp_fmtI, wp_fstr, wp_tupRg, wx_reverse, wp_neg, wp_rng1, wp_rng2, evEs, ev_asg, ev_ex, ev_ret, ev_retn, ev_iff, ev_for, ev_pass, ev_brk, ev_cont, ev_nope, wp_no, evT, evAnd, evOr, evTA, evTO, evP, evC, wp_bnd, wp_ret, wp_opt, wp_see, wp_add, wp_sub, wx_mul, wx_fdiv, wx_mod, wx_addS, wx_addT, wx_idxT, wx_idxL, wx_int, wx_abs, wx_lenL, wx_lenT, wx_lenS, wx_strI, wx_tupT, wx_tupL, wx_listT, wx_listL, wx_listS, wx_slcT, wx_slcL, wx_append, wx_pop0, wx_joinL, wx_split, wx_find, wp_newL, wp_setL, then_nx, then_rt, then_bk, then_ct, fin_rt, fin_nx, asg_name, asg_tup, asgs_nil, asgs_cons, le_line, lt_line, cop_eq, cop_ne, cop_lt, cop_le, cop_gt, cop_ge, cop_in, cop_notin, cop_is0, cop_is1, cop_is2, cop_is3, cop_is4, cop_is5, eq_int, eq_bl, eq_str, tru_non, tru_bl, tru_int, tru_tup, tru_ref, tn_non, tn_bl, tn_int, tn_str, tn_tup, tn_ref, isTn, mt_append, mt_pop0, mt_pop, mt_reverse, mt_clear, mt_join, mt_split, mt_find, mt_startswith, mt_partition, wk_tup, wk_str, wk_ref,
    rdL_cons0, rdL_ro0, rdL_succ, rdM_cons0, rdM_succ, List.map_cons, List.map_nil, List.replicate_succ, List.replicate_zero, List.cons_append, List.nil_append, List.append_nil, List.append_assoc, rdL_at, rdL_at0, rdM_at, rdM_at0, set_at, set_at0, List.length_append, Nat.add_assoc, List.getElem?_cons_succ, List.getElem?_cons_zero, List.set_cons_succ, List.set_cons_zero, Nat.reduceSub, Nat.reduceAdd, Option.map_some, Option.bind_some, Option.some.injEq, exists_eq_left', exists_eq_left, exists_eq', exists_and_left, exists_const, D.int.injEq, D.ref.injEq, D.str.injEq, D.bl.injEq, D.tup.injEq, true_and, and_true, List.length_cons, List.length_nil, atI_lit, ixN_lit, Nat.reduceLT, Nat.reduceLeDiff, Nat.reduceEqDiff, Int.reduceLT, Int.reduceLE, Int.reduceEq, Nat.lt_irrefl, Nat.zero_lt_succ, Nat.reduceMul, Int.reduceNeg, Bool.false_eq_true, if_true, if_false, Nat.zero_add, nlit, eq_self, decide_true, decide_false, reduceIte, Bool.or_false, Bool.false_or, Bool.true_or, Bool.or_true, Bool.and_true, Bool.true_and, Bool.and_false, Bool.false_and, Bool.not_true, Bool.not_false, List.all_cons, List.all_nil, List.any_cons, List.any_nil]
      subst hR8
      simp only [wp_cons, wp_nil, wx_asgi, ev_lit, ev_var, ev_gl, ev_tup, ev_lst, ev_bin, ev_neg, ev_cmp, ev_chain, ev_and, ev_or, ev_not, ev_ifx, ev_idx, ev_slc, ev_call, ev_blt, ev_isi, ev_isis, ev_mth, ev_lc, ei_val, ei_rng1, ei_rng2, ei_zip, ei_enum, wx_addL, ev_fmt, ev_fstr, ev_tupRg1, ev_tupRg2, wp_fmtS, wp_fmtI, wp_fstr, wp_tupRg, wx_reverse, wp_neg, wp_rng1, wp_rng2, evEs, ev_asg, ev_ex, ev_ret, ev_retn, ev_iff, ev_for, ev_pass, ev_brk, ev_cont, ev_nope, wp_no, evT, evAnd, evOr, evTA, evTO, evP, evC, wp_bnd, wp_ret, wp_opt, wp_see, wp_add, wp_sub, wx_mul, wx_fdiv, wx_mod, wx_addS, wx_addT, wx_idxT, wx_idxL, wx_int, wx_abs, wx_lenL, wx_lenT, wx_lenS, wx_strI, wx_tupT, wx_tupL, wx_listT, wx_listL, wx_listS, wx_slcT, wx_slcL, wx_append, wx_pop0, wx_joinL, wx_split, wx_find, wp_newL, wp_setL, then_nx, then_rt, then_bk, then_ct, fin_rt, fin_nx, asg_name, asg_tup, asgs_nil, asgs_cons, le_line, lt_line, cop_eq, cop_ne, cop_lt, cop_le, cop_gt, cop_ge, cop_in, cop_notin, cop_is0, cop_is1, cop_is2, cop_is3, cop_is4, cop_is5, eq_int, eq_bl, eq_str, tru_non, tru_bl, tru_int, tru_tup, tru_ref, tn_non, tn_bl, tn_int, tn_str, tn_tup, tn_ref, isTn, mt_append, mt_pop0, mt_pop, mt_reverse, mt_clear, mt_join, mt_split, mt_find, mt_startswith, mt_partition, wk_tup, wk_str, wk_ref,
    rdL_cons0, rdL_ro0, rdL_succ, rdM_cons0, rdM_succ, List.map_cons, List.map_nil, List.replicate_succ, List.replicate_zero, List.cons_append, List.nil_append, List.append_nil, List.append_assoc, rdL_at, rdL_at0, rdM_at, rdM_at0, set_at, set_at0, List.length_append, Nat.add_assoc, List.getElem?_cons_succ, List.getElem?_cons_zero, List.set_cons_succ, List.set_cons_zero, Nat.reduceSub, Nat.reduceAdd, Option.map_some, Option.bind_some, Option.some.injEq, exists_eq_left', exists_eq_left, exists_eq', exists_and_left, exists_const, D.int.injEq, D.ref.injEq, D.str.injEq, D.bl.injEq, D.tup.injEq, true_and, and_true, List.length_cons, List.length_nil, atI_lit, ixN_lit, Nat.reduceLT, Nat.reduceLeDiff, Nat.reduceEqDiff, Int.reduceLT, Int.reduceLE, Int.reduceEq, Nat.lt_irrefl, Nat.zero_lt_succ, Nat.reduceMul, Int.reduceNeg, Bool.false_eq_true, if_true, if_false, Nat.zero_add, nlit, eq_self, decide_true, decide_false, reduceIte, Bool.or_false, Bool.false_or, Bool.true_or, Bool.or_true, Bool.and_true, Bool.true_and, Bool.and_false, Bool.false_and, Bool.not_true, Bool.not_false, List.all_cons, List.all_nil, List.any_cons, List.any_nil]
      refine ⟨by simp; have : (1000 : Nat) < sizeLine := by decide
                 omega, ?_⟩
      refine (hI (kinds.length + 1) _ _).mpr ?_
      refine ⟨_, _, kinds ++ [[z]], G10, n9 + 1, X ++ [.lst [], .lst [.int z]], rfl, by simp, fun kd hkd => ?_, by omega, by simp [tupI]⟩
      rcases List.mem_append.mp hkd with hkd | hkd
      · exact hk kd hkd
      · rw [List.mem_singleton.mp hkd]
        exact ⟨⟨List.pairwise_singleton _ _, fun y hy => by rw [List.mem_singleton.mp hy]; omega⟩, by simp⟩
    | cons x xs =>
      simp only [wp_cons, wp_nil, wx_asgi, ev_lit, ev_var, ev_gl, ev_tup, ev_lst, ev_bin, ev_neg, ev_cmp, ev_chain, ev_and, ev_or, ev_not, ev_ifx, ev_idx, ev_slc, ev_call, ev_blt, ev_isi, ev_isis, ev_mth, ev_lc, ei_val, ei_rng1, ei_rng2, ei_zip, ei_enum, wx_addL, ev_fmt, ev_fstr, ev_tupRg1, ev_tupRg2, wp_fmtS, wp_fmtI, wp_fstr, wp_tupRg, wx_reverse, wp_neg, wp_rng1, wp_rng2, evEs, ev_asg, ev_ex, ev_ret, ev_retn, ev_iff, ev_for, ev_pass, ev_brk, ev_cont, ev_nope, wp_no, evT, evAnd, evOr, evTA, evTO, evP, evC, wp_bnd, wp_ret, wp_opt, wp_see, wp_add, wp_sub, wx_mul, wx_fdiv, wx_mod, wx_addS, wx_addT, wx_idxT, wx_idxL, wx_int, wx_abs, wx_lenL, wx_lenT, wx_lenS, wx_strI, wx_tupT, wx_tupL, wx_listT, wx_listL, wx_listS, wx_slcT, wx_slcL, wx_append, wx_pop0, wx_joinL, wx_split, wx_find, wp_newL, wp_setL, then_nx, then_rt, then_bk, then_ct, fin_rt, fin_nx, asg_name, asg_tup, asgs_nil, asgs_cons, le_line, lt_line, cop_eq, cop_ne, cop_lt, cop_le, cop_gt, cop_ge, cop_in, cop_notin, cop_is0, cop_is1, cop_is2, cop_is3, cop_is4, cop_is5, eq_int, eq_bl, eq_str, tru_non, tru_bl, tru_int, tru_tup, tru_ref, tn_non, tn_bl, tn_int, tn_str, tn_tup, tn_ref, isTn, mt_append, mt_pop0, mt_pop, mt_reverse, mt_clear, mt_join, mt_split, mt_find, mt_startswith, mt_partition, wk_tup, wk_str, wk_ref,
    rdL_cons0, rdL_ro0, rdL_succ, rdM_cons0, rdM_succ, List.map_cons, List.map_nil, List.replicate_succ, List.replicate_zero, List.cons_append, List.nil_append, List.append_nil, List.append_assoc, rdL_at, rdL_at0, rdM_at, rdM_at0, set_at, set_at0, List.length_append, Nat.add_assoc, List.getElem?_cons_succ, List.getElem?_cons_zero, List.set_cons_succ, List.set_cons_zero, Nat.reduceSub, Nat.reduceAdd, Option.map_some, Option.bind_some, Option.some.injEq, exists_eq_left', exists_eq_left, exists_eq', exists_and_left, exists_const, D.int.injEq, D.ref.injEq, D.str.injEq, D.bl.injEq, D.tup.injEq, true_and, and_true, List.length_cons, List.length_nil, atI_lit, ixN_lit, Nat.reduceLT, Nat.reduceLeDiff, Nat.reduceEqDiff, Int.reduceLT, Int.reduceLE, Int.reduceEq, Nat.lt_irrefl, Nat.zero_lt_succ, Nat.reduceMul, Int.reduceNeg, Bool.false_eq_true, if_true, if_false, Nat.zero_add, nlit, eq_self, decide_true, decide_false, reduceIte, Bool.or_false, Bool.false_or, Bool.true_or, Bool.or_true, Bool.and_true, Bool.true_and, Bool.and_false, Bool.false_and, Bool.not_true, Bool.not_false, List.all_cons, List.all_nil, List.any_cons, List.any_nil, List.isEmpty_cons]
      subst hR8
      simp only [wp_cons, wp_nil, wx_asgi, ev_lit, ev_var, ev_gl, ev_tup, ev_lst, ev_bin, ev_neg, ev_cmp, ev_chain, ev_and, ev_or, ev_not, ev_ifx, ev_idx, ev_slc, ev_call, ev_blt, ev_isi, ev_isis, ev_mth, ev_lc, ei_val, ei_rng1, ei_rng2, ei_zip, ei_enum, wx_addL, ev_fmt, ev_fstr, ev_tupRg1, ev_tupRg2, wp_fmtS, wp_fmtI, wp_fstr, wp_tupRg, wx_reverse, wp_neg, wp_rng1, wp_rng2, evEs, ev_asg, ev_ex, ev_ret, ev_retn, ev_iff, ev_for, ev_pass, ev_brk, ev_cont, ev_nope, wp_no, evT, evAnd, evOr, evTA, evTO, evP, evC, wp_bnd, wp_ret, wp_opt, wp_see, wp_add, wp_sub, wx_mul, wx_fdiv, wx_mod, wx_addS, wx_addT, wx_idxT, wx_idxL, wx_int, wx_abs, wx_lenL, wx_lenT, wx_lenS, wx_strI, wx_tupT, wx_tupL, wx_listT, wx_listL, wx_listS, wx_slcT, wx_slcL, wx_append, wx_pop0, wx_joinL, wx_split, wx_find, wp_newL, wp_setL, then_nx, then_rt, then_bk, then_ct, fin_rt, fin_nx, asg_name, asg_tup, asgs_nil, asgs_cons, le_line, lt_line, cop_eq, cop_ne, cop_lt, cop_le, cop_gt, cop_ge, cop_in, cop_notin, cop_is0, cop_is1, cop_is2, cop_is3, cop_is4, cop_is5, eq_int, eq_bl, eq_str, tru_non, tru_bl, tru_int, tru_tup, tru_ref, tn_non, tn_bl, tn_int, tn_str, tn_tup, tn_ref, isTn, mt_append, mt_pop0, mt_pop, mt_reverse, mt_clear, mt_join, mt_split, mt_find, mt_startswith, mt_partition, wk_tup, wk_str, wk_ref,
    rdL_cons0, rdL_ro0, rdL_succ, rdM_cons0, rdM_succ, List.map_cons, List.map_nil, List.replicate_succ, List.replicate_zero, List.cons_append, List.nil_append, List.append_nil, List.append_assoc, rdL_at, rdL_at0, rdM_at, rdM_at0, set_at, set_at0, List.length_append, Nat.add_assoc, List.getElem?_cons_succ, List.getElem?_cons_zero, List.set_cons_succ, List.set_cons_zero, Nat.reduceSub, Nat.reduceAdd, Option.map_some, Option.bind_some, Option.some.injEq, exists_eq_left', exists_eq_left, exists_eq', exists_and_left, exists_const, D.int.injEq, D.ref.injEq, D.str.injEq, D.bl.injEq, D.tup.injEq, true_and, and_true, List.length_cons, List.length_nil, atI_lit, ixN_lit, Nat.reduceLT, Nat.reduceLeDiff, Nat.reduceEqDiff, Int.reduceLT, Int.reduceLE, Int.reduceEq, Nat.lt_irrefl, Nat.zero_lt_succ, Nat.reduceMul, Int.reduceNeg, Bool.false_eq_true, if_true, if_false, Nat.zero_add, nlit, eq_self, decide_true, decide_false, reduceIte, Bool.or_false, Bool.false_or, Bool.true_or, Bool.or_true, Bool.and_true, Bool.true_and, Bool.and_false, Bool.false_and, Bool.not_true, Bool.not_false, List.all_cons, List.all_nil, List.any_cons, List.any_nil]
      refine ⟨by simp; have : (1000 : Nat) < sizeLine := by decide
                 omega, ?_⟩
      refine (hI (kinds.length + 1) _ _).mpr ?_
      refine ⟨_, _, kinds ++ [x :: xs], G9, n9, X ++ [.lst (.int x :: xs.map .int)], rfl, by simp, fun kd hkd => ?_, by omega, by simp [tupI]⟩
      rcases List.mem_append.mp hkd with hkd | hkd
      · exact hk kd hkd
      · rw [List.mem_singleton.mp hkd]
        exact ⟨hx, by simp⟩
  · obtain ⟨a9, a11, kinds, G8, n8, X, rfl, hkl, hk, hn8, rfl⟩ := (hI _ _ _).mp hh
    refine ⟨rfl, ?_⟩
    have hkl : kinds.length = m.toNat := hkl
    obtain ⟨R8, hR8⟩ : ∃ R8, R8 = R ++ oa :: ob :: .lst (kinds.map tupI) :: X := ⟨_, rfl⟩
    rw [← hR8]
    simp only [wp_cons, wp_nil, wx_asgi, ev_lit, ev_var, ev_gl, ev_tup, ev_lst, ev_bin, ev_neg, ev_cmp, ev_chain, ev_and, ev_or, ev_not, ev_ifx, ev_idx, ev_slc, ev_call, ev_blt, ev_isi, ev_isis, ev_mth, ev_lc, ei_val, ei_rng1, ei_rng2, ei_zip, ei_enum, wx_addL, ev_fmt, ev_fstr, ev_tupRg1, ev_tupRg2, wp_fmtS, wp_fmtI, wp_fstr, wp_tupRg, wx_reverse, wp_neg, wp_rng1, wp_rng2, evEs, ev_asg, ev_ex, ev_ret, ev_retn, ev_iff, ev_for, ev_pass, ev_brk, ev_cont, ev_nope, wp_no, evT, evAnd, evOr, evTA, evTO, evP, evC, wp_bnd, wp_ret, wp_opt, wp_see, wp_add, wp_sub, wx_mul, wx_fdiv, wx_mod, wx_addS, wx_addT, wx_idxT, wx_idxL, wx_int, wx_abs, wx_lenL, wx_lenT, wx_lenS, wx_strI, wx_tupT, wx_tupL, wx_listT, wx_listL, wx_listS, wx_slcT, wx_slcL, wx_append, wx_pop0, wx_joinL, wx_split, wx_find, wp_newL, wp_setL, then_nx, then_rt, then_bk, then_ct, fin_rt, fin_nx, asg_name, asg_tup, asgs_nil, asgs_cons, le_line, lt_line, cop_eq, cop_ne, cop_lt, cop_le, cop_gt, cop_ge, cop_in, cop_notin, cop_is0, cop_is1, cop_is2, cop_is3, cop_is4, cop_is5, eq_int, eq_bl, eq_str, tru_non, tru_bl, tru_int, tru_tup, tru_ref, tn_non, tn_bl, tn_int, tn_str, tn_tup, tn_ref, isTn, mt_append, mt_pop0, mt_pop, mt_reverse, mt_clear, mt_join, mt_split, mt_find, mt_startswith, mt_partition, wk_tup, wk_str, wk_ref,
    rdL_cons0, rdL_ro0, rdL_succ, rdM_cons0, rdM_succ, List.map_cons, List.map_nil, List.replicate_succ, List.replicate_zero, List.cons_append, List.nil_append, List.append_nil, List.append_assoc, rdL_at, rdL_at0, rdM_at, rdM_at0, set_at, set_at0, List.length_append, Nat.add_assoc, List.getElem?_cons_succ, List.getElem?_cons_zero, List.set_cons_succ, List.set_cons_zero, Nat.reduceSub, Nat.reduceAdd, Option.map_some, Option.bind_some, Option.some.injEq, exists_eq_left', exists_eq_left, exists_eq', exists_and_left, exists_const, D.int.injEq, D.ref.injEq, D.str.injEq, D.bl.injEq, D.tup.injEq, true_and, and_true, List.length_cons, List.length_nil, atI_lit, ixN_lit, Nat.reduceLT, Nat.reduceLeDiff, Nat.reduceEqDiff, Int.reduceLT, Int.reduceLE, Int.reduceEq, Nat.lt_irrefl, Nat.zero_lt_succ, Nat.reduceMul, Int.reduceNeg, Bool.false_eq_true, if_true, if_false, Nat.zero_add, nlit, eq_self, decide_true, decide_false, reduceIte, Bool.or_false, Bool.false_or, Bool.true_or, Bool.or_true, Bool.and_true, Bool.true_and, Bool.and_false, Bool.false_and, Bool.not_true, Bool.not_false, List.all_cons, List.all_nil, List.any_cons, List.any_nil]
    have hwl : 0 ≤ (1 + w) * (1 + l) ∧ (1 + w) * (1 + l) ≤ 9 := by
      refine ⟨Int.mul_nonneg (by omega) (by omega), ?_⟩
      have : (1 + w) * (1 + l) ≤ 3 * 3 := Int.mul_le_mul (by omega) (by omega) (by omega) (by omega)
      omega
    refine ⟨lgs (by omega) (by omega) (by omega) (by omega), by unfold inRng; exact decide_eq_true (by omega), ?_⟩
    refine comp_draw h hC hCl (m := ((1 + w) * (1 + l)).toNat) (by omega) (by omega) (by omega) rfl ⟨by decide, by simp⟩ fun xs G9 n9 hx hn9 => ?_
    have hx : Asc ((1 + w) * (1 + l)) xs := by
      have e : (((1 + w) * (1 + l)).toNat : Int) = (1 + w) * (1 + l) := Int.toNat_of_nonneg hwl.1
      rw [← e]; exact hx
    have hr8 : ∀ Y, rdL (R8 ++ Y) (R.length + 2) = some (kinds.map tupI) := by
      intro Y; subst hR8; simp only [wp_cons, wp_nil, wx_asgi, ev_lit, ev_var, ev_gl, ev_tup, ev_lst, ev_bin, ev_neg, ev_cmp, ev_chain, ev_and, ev_or, ev_not, ev_ifx, ev_idx, ev_slc, ev_call, ev_blt, ev_isi, ev_isis, ev_mth, ev_lc, ei_val, ei_rng1, ei_rng2, ei_zip, ei_enum, wx_addL, ev_fmt, ev_fstr, ev_tupRg1, ev_tupRg2, wp_fmtS, wp_fmtI, wp_fstr, wp_tupRg, wx_reverse, wp_neg, wp_rng1, wp_rng2, evEs, ev_asg, ev_ex, ev_ret, ev_retn, ev_iff, ev_for, ev_pass, ev_brk, ev_cont, ev_nope, wp_no, evT, evAnd, evOr, evTA, evTO, evP, evC, wp_bnd, wp_ret, wp_opt, wp_see, wp_add, wp_sub, wx_mul, wx_fdiv, wx_mod, wx_addS, wx_addT, wx_idxT, wx_idxL, wx_int, wx_abs, wx_lenL, wx_lenT, wx_lenS, wx_strI, wx_tupT, wx_tupL, wx_listT, wx_listL, wx_listS, wx_slcT, wx_slcL, wx_append, wx_pop0, wx_joinL, wx_split, wx_find, wp_newL, wp_setL, then_nx, then_rt, then_bk, then_ct, fin_rt, fin_nx, asg_name, asg_tup, asgs_nil, asgs_cons, le_line, lt_line, cop_eq, cop_ne, cop_lt, cop_le, cop_gt, cop_ge, cop_in, cop_notin, cop_is0, cop_is1, cop_is2, cop_is3, cop_is4, cop_is5, eq_int, eq_bl, eq_str, tru_non, tru_bl, tru_int, tru_tup, tru_ref, tn_non, tn_bl, tn_int, tn_str, tn_tup, tn_ref, isTn, mt_append, mt_pop0, mt_pop, mt_reverse, mt_clear, mt_join, mt_split, mt_find, mt_startswith, mt_partition, wk_tup, wk_str, wk_ref,
    rdL_cons0, rdL_ro0, rdL_succ, rdM_cons0, rdM_succ, List.map_cons, List.map_nil, List.replicate_succ, List.replicate_zero, List.cons_append, List.nil_append, List.append_nil, List.append_assoc, rdL_at, rdL_at0, rdM_at, rdM_at0, set_at, set_at0, List.length_append, Nat.add_assoc, List.getElem?_cons_succ, List.getElem?_cons_zero, List.set_cons_succ, List.set_cons_zero, Nat.reduceSub, Nat.reduceAdd, Option.map_some, Option.bind_some, Option.some.injEq, exists_eq_left', exists_eq_left, exists_eq', exists_and_left, exists_const, D.int.injEq, D.ref.injEq, D.str.injEq, D.bl.injEq, D.tup.injEq, true_and, and_true, List.length_cons, List.length_nil, atI_lit, ixN_lit, Nat.reduceLT, Nat.reduceLeDiff, Nat.reduceEqDiff, Int.reduceLT, Int.reduceLE, Int.reduceEq, Nat.lt_irrefl, Nat.zero_lt_succ, Nat.reduceMul, Int.reduceNeg, Bool.false_eq_true, if_true, if_false, Nat.zero_add, nlit, eq_self, decide_true, decide_false, reduceIte, Bool.or_false, Bool.false_or, Bool.true_or, Bool.or_true, Bool.and_true, Bool.true_and, Bool.and_false, Bool.false_and, Bool.not_true, Bool.not_false, List.all_cons, List.all_nil, List.any_cons, List.any_nil]
    simp only [wp_cons, wp_nil, wx_asgi, ev_lit, ev_var, ev_gl, ev_tup, ev_lst, ev_bin, ev_neg, ev_cmp, ev_chain, ev_and, ev_or, ev_not, ev_ifx, ev_idx, ev_slc, ev_call, ev_blt, ev_isi, ev_isis, ev_mth, ev_lc, ei_val, ei_rng1, ei_rng2, ei_zip, ei_enum, wx_addL, ev_fmt, ev_fstr, ev_tupRg1, ev_tupRg2, wp_fmtS, wp_fmtI, wp_fstr, wp_tupRg, wx_reverse, wp_neg, wp_rng1, wp_rng2, evEs, ev_asg, ev_ex, ev_ret, ev_retn, ev_iff, ev_for, ev_pass, ev_brk, ev_cont, ev_nope, wp_no, evT, evAnd, evOr, evTA, evTO, evP, evC, wp_bnd, wp_ret, wp_opt, wp_see, wp_add, wp_sub, wx_mul, wx_fdiv, wx_mod, wx_addS, wx_addT, wx_idxT, wx_idxL, wx_int, wx_abs, wx_lenL, wx_lenT, wx_lenS, wx_strI, wx_tupT, wx_tupL, wx_listT, wx_listL, wx_listS, wx_slcT, wx_slcL, wx_append, wx_pop0, wx_joinL, wx_split, wx_find, wp_newL, wp_setL, then_nx, then_rt, then_bk, then_ct, fin_rt, fin_nx, asg_name, asg_tup, asgs_nil, asgs_cons, le_line, lt_line, cop_eq, cop_ne, cop_lt, cop_le, cop_gt, cop_ge, cop_in, cop_notin, cop_is0, cop_is1, cop_is2, cop_is3, cop_is4, cop_is5, eq_int, eq_bl, eq_str, tru_non, tru_bl, tru_int, tru_tup, tru_ref, tn_non, tn_bl, tn_int, tn_str, tn_tup, tn_ref, isTn, mt_append, mt_pop0, mt_pop, mt_reverse, mt_clear, mt_join, mt_split, mt_find, mt_startswith, mt_partition, wk_tup, wk_str, wk_ref,
    rdL_cons0, rdL_ro0, rdL_succ, rdM_cons0, rdM_succ, List.map_cons, List.map_nil, List.replicate_succ, List.replicate_zero, List.cons_append, List.nil_append, List.append_nil, List.append_assoc, rdL_at, rdL_at0, rdM_at, rdM_at0, set_at, set_at0, List.length_append, Nat.add_assoc, List.getElem?_cons_succ, List.getElem?_cons_zero, List.set_cons_succ, List.set_cons_zero, Nat.reduceSub, Nat.reduceAdd, Option.map_some, Option.bind_some, Option.some.injEq, exists_eq_left', exists_eq_left, exists_eq', exists_and_left, exists_const, D.int.injEq, D.ref.injEq, D.str.injEq, D.bl.injEq, D.tup.injEq, true_and, and_true, List.length_cons, List.length_nil, atI_lit, ixN_lit, Nat.reduceLT, Nat.reduceLeDiff, Nat.reduceEqDiff, Int.reduceLT, Int.reduceLE, Int.reduceEq, Nat.lt_irrefl, Nat.zero_lt_succ, Nat.reduceMul, Int.reduceNeg, Bool.false_eq_true, if_true, if_false, Nat.zero_add, nlit, eq_self, decide_true, decide_false, reduceIte, Bool.or_false, Bool.false_or, Bool.true_or, Bool.or_true, Bool.and_true, Bool.true_and, Bool.and_false, Bool.false_and, Bool.not_true, Bool.not_false, List.all_cons, List.all_nil, List.any_cons, List.any_nil, hr8]
    subst hR8
    have ec : cutD (xs.map D.int) none (some 2) = (xs.take 2).map D.int := by
      unfold cutD
      have e1 : HT.sIx (xs.map D.int).length 0 none = 0 := rfl
      have e2 : HT.sIx (xs.map D.int).length (xs.map D.int).length (some 2) = min 2 xs.length := by
        have := HT.sIx_nat (xs.map D.int).length (xs.map D.int).length 2
        simpa using this
      rw [e1, e2, List.drop_zero, List.map_take]
      by_cases h3 : 2 ≤ xs.length
      · rw [Nat.min_eq_left h3]
      · rw [Nat.min_eq_right (by omega), Nat.sub_zero, List.take_of_length_le (by simp), List.take_of_length_le (by simp; omega)]
    refine ⟨⟨1 + w, 1 + l, 1 + r, snd, decide (x2 = 1), look, kinds, xs.take 2⟩, ⟨by simp only; omega, by simp only; omega, by simp only; omega, hs, hlk, by simp only; omega, hk, hx.take 2, by simp only [List.length_take]; omega⟩, ?_, G9, n9, by omega, ?_⟩
    · rw [ec]; rfl
    · exact ⟨(oa :: ob :: .lst (kinds.map tupI) :: X) ++ [.lst (xs.map .int), .lst (cutD (xs.map D.int) none (some 2))], by simp⟩
end
end My

/-! Numbers as texts. -/
namespace My
open PySem PySem.Spec PyProof.Rows L2
abbrev FD (ds : List Df) (d : Df) : Prop := findD ds d.name = some d
/-- it answers v; the store only grows -/
def Pu (m : M D) (S : Store) (v : D) : Prop := Wp m S fun a S1 => a = v ∧ Gr S S1
theorem pu_call {ds : List Df} {con : Str → Option D} {fuel k : Nat} {d : Df} {f : Str} {args : List D} {S : Store} {v : D} (h : findD ds d.name = some d) (hf : f = d.name) (hl : args.length = d.np)
    (hb : Wp (evSs ⟨callD ds con fuel k, con, fuel⟩ d.body (args.map some ++ List.replicate (d.nn - d.np) none)) S (Fin fun a S1 => a = v ∧ Gr S S1)) : Pu (callD ds con fuel (k + 1) f args) S v := wp_call h hf hl hb
theorem Pu.to {m : M D} {S : Store} {v : D} {Q : D → Store → Prop} (h : Pu m S v) (q : ∀ S1, Gr S S1 → Q v S1) : Wp m S Q := h.mono fun a S1 ⟨e, g⟩ => by subst e; exact q S1 g
def dig (i : Int) : Str := Str.ofString (toString i)
theorem tl_dig {i : Int} (h : 0 ≤ i ∧ i < 10) : TL.tl (dig i) = [48 + i.toNat] := by
  obtain ⟨n, rfl⟩ := Int.eq_ofNat_of_zero_le h.1
  have : TL.tl (dig (n : Int)) = TL.numL n := TL.tl_num n
  rw [this, TL.numL_lt (by omega)]
  rfl
theorem len_dig {i : Int} (h : 0 ≤ i ∧ i < 10) : (dig i).length = 1 := by rw [TL.len_tl, tl_dig h]; rfl
theorem strsOf_map : ∀ xs : List Str, strsOf (xs.map .str) = some xs
  | [] => rfl
  | x :: xs => by simp only [List.map_cons, strsOf, strsOf_map xs, Option.map_some]
theorem log_dig {i : Int} (h : 0 ≤ i ∧ i < 10) : i.natAbs.log2 < 1920 := by
  have := lg1 h.1 (by omega)
  omega
/-- texts of numbers below ten -/
def Sm10 (xs : List Int) : Prop := ∀ x ∈ xs, 0 ≤ x ∧ x < 10
theorem sum_dig : ∀ {xs : List Int}, Sm10 xs → ((xs.map dig).map (·.length)).sum = xs.length
  | [], _ => rfl
  | x :: xs, h => by
    simp only [List.map_cons, List.sum_cons, List.length_cons]
    rw [len_dig (h x List.mem_cons_self), sum_dig fun y hy => h y (List.mem_cons_of_mem _ hy)]
    omega
def commas (xs : List Int) : Str := if xs = [] then "-" else Str.join "," (xs.map dig)
def glued (xs : List Int) : Str := Str.join "" (xs.map dig)
def strD (d : D) : D := match d with
  | .int i => .str (dig i)
  | d => d
theorem map_strD (xs : List Int) : (xs.map D.int).map strD = (xs.map dig).map .str := by
  simp only [List.map_map]
  exact List.map_congr_left fun _ _ => rfl
/-- [str(k) for k in numbers] -/
theorem comp_str {Γ : Tx} {nm : Str} {ρ : Env} {v : Nat} {xs : List Int} (hv : v < ρ.length) (h : Sm10 xs) (hl : xs.length ≤ 1000) {S : Store} {Q : D → Store → Prop} (q : ∀ S1, Gr S S1 → Q (.ref S1.length) (S1 ++ [.lst ((xs.map dig).map .str)])) :
    Wp (compF (wkItems (xs.map .int)) (itemF Γ (.blt .str (.cons (.var v) .nil)) (.name v) .nil [(nm, v)] ρ) (wkItems (xs.map D.int)).n 0 []) S Q := by
  refine comp_items (g := strD) (xs := xs.map .int) (by simp; exact Nat.le_trans hl (by decide)) (fun x hx S1 => ?_) fun S1 g => by rw [map_strD]; exact q S1 g
  obtain ⟨i, hi, rfl⟩ := List.mem_map.mp hx
  have ev : ((ρ.set v none).set v (some (D.int i)))[v]? = some (some (.int i)) := by
    rw [List.getElem?_set_self (by simpa using hv)]
  rw [wx_itemF]
  simp only [wp_cons, wp_nil, wx_asgi, ev_lit, ev_var, ev_gl, ev_tup, ev_lst, ev_bin, ev_neg, ev_cmp, ev_chain, ev_and, ev_or, ev_not, ev_ifx, ev_idx, ev_slc, ev_call, ev_blt, ev_isi, ev_isis, ev_mth, ev_lc, ei_val, ei_rng1, ei_rng2, ei_zip, ei_enum, wx_addL, ev_fmt, ev_fstr, ev_tupRg1, ev_tupRg2, wp_fmtS, wp_fmtI, wp_fstr, wp_tupRg, wx_reverse, wp_neg, wp_rng1, wp_rng2, evEs, ev_asg, ev_ex, ev_ret, ev_retn, ev_iff, ev_for, ev_pass, ev_brk, ev_cont, ev_nope, wp_no, evT, evAnd, evOr, evTA, evTO, evP, evC, wp_bnd, wp_ret, wp_opt, wp_see, wp_add, wp_sub, wx_mul, wx_fdiv, wx_mod, wx_addS, wx_addT, wx_idxT, wx_idxL, wx_int, wx_abs, wx_lenL, wx_lenT, wx_lenS, wx_strI, wx_tupT, wx_tupL, wx_listT, wx_listL, wx_listS, wx_slcT, wx_slcL, wx_append, wx_pop0, wx_joinL, wx_split, wx_find, wp_newL, wp_setL, then_nx, then_rt, then_bk, then_ct, fin_rt, fin_nx, asg_name, asg_tup, asgs_nil, asgs_cons, le_line, lt_line, cop_eq, cop_ne, cop_lt, cop_le, cop_gt, cop_ge, cop_in, cop_notin, cop_is0, cop_is1, cop_is2, cop_is3, cop_is4, cop_is5, eq_int, eq_bl, eq_str, tru_non, tru_bl, tru_int, tru_tup, tru_ref, tn_non, tn_bl, tn_int, tn_str, tn_tup, tn_ref, isTn, mt_append, mt_pop0, mt_pop, mt_reverse, mt_clear, mt_join, mt_split, mt_find, mt_startswith, mt_partition, wk_tup, wk_str, wk_ref,
    rdL_cons0, rdL_ro0, rdL_succ, rdM_cons0, rdM_succ, List.map_cons, List.map_nil, List.replicate_succ, List.replicate_zero, List.cons_append, List.nil_append, List.append_nil, List.append_assoc, rdL_at, rdL_at0, rdM_at, rdM_at0, set_at, set_at0, List.length_append, Nat.add_assoc, List.getElem?_cons_succ, List.getElem?_cons_zero, List.set_cons_succ, List.set_cons_zero, Nat.reduceSub, Nat.reduceAdd, Option.map_some, Option.bind_some, Option.some.injEq, exists_eq_left', exists_eq_left, exists_eq', exists_and_left, exists_const, D.int.injEq, D.ref.injEq, D.str.injEq, D.bl.injEq, D.tup.injEq, true_and, and_true, List.length_cons, List.length_nil, atI_lit, ixN_lit, Nat.reduceLT, Nat.reduceLeDiff, Nat.reduceEqDiff, Int.reduceLT, Int.reduceLE, Int.reduceEq, Nat.lt_irrefl, Nat.zero_lt_succ, Nat.reduceMul, Int.reduceNeg, Bool.false_eq_true, if_true, if_false, Nat.zero_add, nlit, eq_self, decide_true, decide_false, reduceIte, Bool.or_false, Bool.false_or, Bool.true_or, Bool.or_true, Bool.and_true, Bool.true_and, Bool.and_false, Bool.false_and, Bool.not_true, Bool.not_false, List.all_cons, List.all_nil, List.any_cons, List.any_nil, wipeD, ev]
  exact ⟨fun _ => ⟨log_dig (h i hi), rfl, .refl _⟩, fun z => by cases z⟩
section
variable {ds : List Df} {con : Str → Option D} {fuel k : Nat} {S : Store}
theorem join_le {xs : List Int} {x : Str} (h : Sm10 xs) (hl : xs.length ≤ 1000) (hx : x.length ≤ 1) : ((xs.map dig).map (·.length)).sum + (xs.map dig).length * x.length ≤ 16777216 := by
  rw [sum_dig h, List.length_map]
  have : xs.length * x.length ≤ 1000 * 1 := Nat.mul_le_mul hl hx
  omega
theorem commas_ok (h : FD ds Lib.df__law_commas) {xs : List Int} (hx : Sm10 xs) (hl : xs.length ≤ 1000) : Pu (callD ds con fuel (k + 1) "_law_commas" [tupI xs]) S (.str (commas xs)) := by
  refine pu_call h rfl rfl ?_
  simp only [Lib.df__law_commas, Lib.b__law_commas, tupI]
  simp only [wp_cons, wp_nil, wx_asgi, ev_lit, ev_var, ev_gl, ev_tup, ev_lst, ev_bin, ev_neg, ev_cmp, ev_chain, ev_and, ev_or, ev_not, ev_ifx, ev_idx, ev_slc, ev_call, ev_blt, ev_isi, ev_isis, ev_mth, ev_lc, ei_val, ei_rng1, ei_rng2, ei_zip, ei_enum, wx_addL, ev_fmt, ev_fstr, ev_tupRg1, ev_tupRg2, wp_fmtS, wp_fmtI, wp_fstr, wp_tupRg, wx_reverse, wp_neg, wp_rng1, wp_rng2, evEs, ev_asg, ev_ex, ev_ret, ev_retn, ev_iff, ev_for, ev_pass, ev_brk, ev_cont, ev_nope, wp_no, evT, evAnd, evOr, evTA, evTO, evP, evC, wp_bnd, wp_ret, wp_opt, wp_see, wp_add, wp_sub, wx_mul, wx_fdiv, wx_mod, wx_addS, wx_addT, wx_idxT, wx_idxL, wx_int, wx_abs, wx_lenL, wx_lenT, wx_lenS, wx_strI, wx_tupT, wx_tupL, wx_listT, wx_listL, wx_listS, wx_slcT, wx_slcL, wx_append, wx_pop0, wx_joinL, wx_split, wx_find, wp_newL, wp_setL, then_nx, then_rt, then_bk, then_ct, fin_rt, fin_nx, asg_name, asg_tup, asgs_nil, asgs_cons, le_line, lt_line, cop_eq, cop_ne, cop_lt, cop_le, cop_gt, cop_ge, cop_in, cop_notin, cop_is0, cop_is1, cop_is2, cop_is3, cop_is4, cop_is5, eq_int, eq_bl, eq_str, tru_non, tru_bl, tru_int, tru_tup, tru_ref, tn_non, tn_bl, tn_int, tn_str, tn_tup, tn_ref, isTn, mt_append, mt_pop0, mt_pop, mt_reverse, mt_clear, mt_join, mt_split, mt_find, mt_startswith, mt_partition, wk_tup, wk_str, wk_ref,
    rdL_cons0, rdL_ro0, rdL_succ, rdM_cons0, rdM_succ, List.map_cons, List.map_nil, List.replicate_succ, List.replicate_zero, List.cons_append, List.nil_append, List.append_nil, List.append_assoc, rdL_at, rdL_at0, rdM_at, rdM_at0, set_at, set_at0, List.length_append, Nat.add_assoc, List.getElem?_cons_succ, List.getElem?_cons_zero, List.set_cons_succ, List.set_cons_zero, Nat.reduceSub, Nat.reduceAdd, Option.map_some, Option.bind_some, Option.some.injEq, exists_eq_left', exists_eq_left, exists_eq', exists_and_left, exists_const, D.int.injEq, D.ref.injEq, D.str.injEq, D.bl.injEq, D.tup.injEq, true_and, and_true, List.length_cons, List.length_nil, atI_lit, ixN_lit, Nat.reduceLT, Nat.reduceLeDiff, Nat.reduceEqDiff, Int.reduceLT, Int.reduceLE, Int.reduceEq, Nat.lt_irrefl, Nat.zero_lt_succ, Nat.reduceMul, Int.reduceNeg, Bool.false_eq_true, if_true, if_false, Nat.zero_add, nlit, eq_self, decide_true, decide_false, reduceIte, Bool.or_false, Bool.false_or, Bool.true_or, Bool.or_true, Bool.and_true, Bool.true_and, Bool.and_false, Bool.false_and, Bool.not_true, Bool.not_false, List.all_cons, List.all_nil, List.any_cons, List.any_nil]
  cases xs with
  | nil =>
    simp only [wp_cons, wp_nil, wx_asgi, ev_lit, ev_var, ev_gl, ev_tup, ev_lst, ev_bin, ev_neg, ev_cmp, ev_chain, ev_and, ev_or, ev_not, ev_ifx, ev_idx, ev_slc, ev_call, ev_blt, ev_isi, ev_isis, ev_mth, ev_lc, ei_val, ei_rng1, ei_rng2, ei_zip, ei_enum, wx_addL, ev_fmt, ev_fstr, ev_tupRg1, ev_tupRg2, wp_fmtS, wp_fmtI, wp_fstr, wp_tupRg, wx_reverse, wp_neg, wp_rng1, wp_rng2, evEs, ev_asg, ev_ex, ev_ret, ev_retn, ev_iff, ev_for, ev_pass, ev_brk, ev_cont, ev_nope, wp_no, evT, evAnd, evOr, evTA, evTO, evP, evC, wp_bnd, wp_ret, wp_opt, wp_see, wp_add, wp_sub, wx_mul, wx_fdiv, wx_mod, wx_addS, wx_addT, wx_idxT, wx_idxL, wx_int, wx_abs, wx_lenL, wx_lenT, wx_lenS, wx_strI, wx_tupT, wx_tupL, wx_listT, wx_listL, wx_listS, wx_slcT, wx_slcL, wx_append, wx_pop0, wx_joinL, wx_split, wx_find, wp_newL, wp_setL, then_nx, then_rt, then_bk, then_ct, fin_rt, fin_nx, asg_name, asg_tup, asgs_nil, asgs_cons, le_line, lt_line, cop_eq, cop_ne, cop_lt, cop_le, cop_gt, cop_ge, cop_in, cop_notin, cop_is0, cop_is1, cop_is2, cop_is3, cop_is4, cop_is5, eq_int, eq_bl, eq_str, tru_non, tru_bl, tru_int, tru_tup, tru_ref, tn_non, tn_bl, tn_int, tn_str, tn_tup, tn_ref, isTn, mt_append, mt_pop0, mt_pop, mt_reverse, mt_clear, mt_join, mt_split, mt_find, mt_startswith, mt_partition, wk_tup, wk_str, wk_ref,
    rdL_cons0, rdL_ro0, rdL_succ, rdM_cons0, rdM_succ, List.map_cons, List.map_nil, List.replicate_succ, List.replicate_zero, List.cons_append, List.nil_append, List.append_nil, List.append_assoc, rdL_at, rdL_at0, rdM_at, rdM_at0, set_at, set_at0, List.length_append, Nat.add_assoc, List.getElem?_cons_succ, List.getElem?_cons_zero, List.set_cons_succ, List.set_cons_zero, Nat.reduceSub, Nat.reduceAdd, Option.map_some, Option.bind_some, Option.some.injEq, exists_eq_left', exists_eq_left, exists_eq', exists_and_left, exists_const, D.int.injEq, D.ref.injEq, D.str.injEq, D.bl.injEq, D.tup.injEq, true_and, and_true, List.length_cons, List.length_nil, atI_lit, ixN_lit, Nat.reduceLT, Nat.reduceLeDiff, Nat.reduceEqDiff, Int.reduceLT, Int.reduceLE, Int.reduceEq, Nat.lt_irrefl, Nat.zero_lt_succ, Nat.reduceMul, Int.reduceNeg, Bool.false_eq_true, if_true, if_false, Nat.zero_add, nlit, eq_self, decide_true, decide_false, reduceIte, Bool.or_false, Bool.false_or, Bool.true_or, Bool.or_true, Bool.and_true, Bool.true_and, Bool.and_false, Bool.false_and, Bool.not_true, Bool.not_false, List.all_cons, List.all_nil, List.any_cons, List.any_nil, List.isEmpty_nil]
    exact ⟨rfl, .refl _⟩
  | cons x xs =>
    simp only [wp_cons, wp_nil, wx_asgi, ev_lit, ev_var, ev_gl, ev_tup, ev_lst, ev_bin, ev_neg, ev_cmp, ev_chain, ev_and, ev_or, ev_not, ev_ifx, ev_idx, ev_slc, ev_call, ev_blt, ev_isi, ev_isis, ev_mth, ev_lc, ei_val, ei_rng1, ei_rng2, ei_zip, ei_enum, wx_addL, ev_fmt, ev_fstr, ev_tupRg1, ev_tupRg2, wp_fmtS, wp_fmtI, wp_fstr, wp_tupRg, wx_reverse, wp_neg, wp_rng1, wp_rng2, evEs, ev_asg, ev_ex, ev_ret, ev_retn, ev_iff, ev_for, ev_pass, ev_brk, ev_cont, ev_nope, wp_no, evT, evAnd, evOr, evTA, evTO, evP, evC, wp_bnd, wp_ret, wp_opt, wp_see, wp_add, wp_sub, wx_mul, wx_fdiv, wx_mod, wx_addS, wx_addT, wx_idxT, wx_idxL, wx_int, wx_abs, wx_lenL, wx_lenT, wx_lenS, wx_strI, wx_tupT, wx_tupL, wx_listT, wx_listL, wx_listS, wx_slcT, wx_slcL, wx_append, wx_pop0, wx_joinL, wx_split, wx_find, wp_newL, wp_setL, then_nx, then_rt, then_bk, then_ct, fin_rt, fin_nx, asg_name, asg_tup, asgs_nil, asgs_cons, le_line, lt_line, cop_eq, cop_ne, cop_lt, cop_le, cop_gt, cop_ge, cop_in, cop_notin, cop_is0, cop_is1, cop_is2, cop_is3, cop_is4, cop_is5, eq_int, eq_bl, eq_str, tru_non, tru_bl, tru_int, tru_tup, tru_ref, tn_non, tn_bl, tn_int, tn_str, tn_tup, tn_ref, isTn, mt_append, mt_pop0, mt_pop, mt_reverse, mt_clear, mt_join, mt_split, mt_find, mt_startswith, mt_partition, wk_tup, wk_str, wk_ref,
    rdL_cons0, rdL_ro0, rdL_succ, rdM_cons0, rdM_succ, List.map_cons, List.map_nil, List.replicate_succ, List.replicate_zero, List.cons_append, List.nil_append, List.append_nil, List.append_assoc, rdL_at, rdL_at0, rdM_at, rdM_at0, set_at, set_at0, List.length_append, Nat.add_assoc, List.getElem?_cons_succ, List.getElem?_cons_zero, List.set_cons_succ, List.set_cons_zero, Nat.reduceSub, Nat.reduceAdd, Option.map_some, Option.bind_some, Option.some.injEq, exists_eq_left', exists_eq_left, exists_eq', exists_and_left, exists_const, D.int.injEq, D.ref.injEq, D.str.injEq, D.bl.injEq, D.tup.injEq, true_and, and_true, List.length_cons, List.length_nil, atI_lit, ixN_lit, Nat.reduceLT, Nat.reduceLeDiff, Nat.reduceEqDiff, Int.reduceLT, Int.reduceLE, Int.reduceEq, Nat.lt_irrefl, Nat.zero_lt_succ, Nat.reduceMul, Int.reduceNeg, Bool.false_eq_true, if_true, if_false, Nat.zero_add, nlit, eq_self, decide_true, decide_false, reduceIte, Bool.or_false, Bool.false_or, Bool.true_or, Bool.or_true, Bool.and_true, Bool.true_and, Bool.and_false, Bool.false_and, Bool.not_true, Bool.not_false, List.all_cons, List.all_nil, List.any_cons, List.any_nil, List.isEmpty_cons]
    have := comp_str (Γ := ⟨callD ds con fuel k, con, fuel⟩) (nm := "k") (ρ := [some (.tup (D.int x :: List.map D.int xs)), none]) (v := 1) (xs := x :: xs) (by simp) hx hl (S := S) (Q := fun a S1 => Wp (mthF Mth.join (D.str (Str.ofString ",")) [a]) S1 fun a S1 => a = .str (commas (x :: xs)) ∧ Gr S S1) fun S1 g => ?_
    · exact this
    · simp only [wp_cons, wp_nil, wx_asgi, ev_lit, ev_var, ev_gl, ev_tup, ev_lst, ev_bin, ev_neg, ev_cmp, ev_chain, ev_and, ev_or, ev_not, ev_ifx, ev_idx, ev_slc, ev_call, ev_blt, ev_isi, ev_isis, ev_mth, ev_lc, ei_val, ei_rng1, ei_rng2, ei_zip, ei_enum, wx_addL, ev_fmt, ev_fstr, ev_tupRg1, ev_tupRg2, wp_fmtS, wp_fmtI, wp_fstr, wp_tupRg, wx_reverse, wp_neg, wp_rng1, wp_rng2, evEs, ev_asg, ev_ex, ev_ret, ev_retn, ev_iff, ev_for, ev_pass, ev_brk, ev_cont, ev_nope, wp_no, evT, evAnd, evOr, evTA, evTO, evP, evC, wp_bnd, wp_ret, wp_opt, wp_see, wp_add, wp_sub, wx_mul, wx_fdiv, wx_mod, wx_addS, wx_addT, wx_idxT, wx_idxL, wx_int, wx_abs, wx_lenL, wx_lenT, wx_lenS, wx_strI, wx_tupT, wx_tupL, wx_listT, wx_listL, wx_listS, wx_slcT, wx_slcL, wx_append, wx_pop0, wx_joinL, wx_split, wx_find, wp_newL, wp_setL, then_nx, then_rt, then_bk, then_ct, fin_rt, fin_nx, asg_name, asg_tup, asgs_nil, asgs_cons, le_line, lt_line, cop_eq, cop_ne, cop_lt, cop_le, cop_gt, cop_ge, cop_in, cop_notin, cop_is0, cop_is1, cop_is2, cop_is3, cop_is4, cop_is5, eq_int, eq_bl, eq_str, tru_non, tru_bl, tru_int, tru_tup, tru_ref, tn_non, tn_bl, tn_int, tn_str, tn_tup, tn_ref, isTn, mt_append, mt_pop0, mt_pop, mt_reverse, mt_clear, mt_join, mt_split, mt_find, mt_startswith, mt_partition, wk_tup, wk_str, wk_ref,
    rdL_cons0, rdL_ro0, rdL_succ, rdM_cons0, rdM_succ, List.map_cons, List.map_nil, List.replicate_succ, List.replicate_zero, List.cons_append, List.nil_append, List.append_nil, List.append_assoc, rdL_at, rdL_at0, rdM_at, rdM_at0, set_at, set_at0, List.length_append, Nat.add_assoc, List.getElem?_cons_succ, List.getElem?_cons_zero, List.set_cons_succ, List.set_cons_zero, Nat.reduceSub, Nat.reduceAdd, Option.map_some, Option.bind_some, Option.some.injEq, exists_eq_left', exists_eq_left, exists_eq', exists_and_left, exists_const, D.int.injEq, D.ref.injEq, D.str.injEq, D.bl.injEq, D.tup.injEq, true_and, and_true, List.length_cons, List.length_nil, atI_lit, ixN_lit, Nat.reduceLT, Nat.reduceLeDiff, Nat.reduceEqDiff, Int.reduceLT, Int.reduceLE, Int.reduceEq, Nat.lt_irrefl, Nat.zero_lt_succ, Nat.reduceMul, Int.reduceNeg, Bool.false_eq_true, if_true, if_false, Nat.zero_add, nlit, eq_self, decide_true, decide_false, reduceIte, Bool.or_false, Bool.false_or, Bool.true_or, Bool.or_true, Bool.and_true, Bool.true_and, Bool.and_false, Bool.false_and, Bool.not_true, Bool.not_false, List.all_cons, List.all_nil, List.any_cons, List.any_nil]
      exact ⟨_, strsOf_map ((x :: xs).map dig), join_le hx hl (by decide +kernel), rfl, g.one _⟩
theorem glued_ok (h : FD ds Lib.df__law_glued) {xs : List Int} (hx : Sm10 xs) (hl : xs.length ≤ 1000) : Pu (callD ds con fuel (k + 1) "_law_glued" [tupI xs]) S (.str (glued xs)) := by
  refine pu_call h rfl rfl ?_
  simp only [Lib.df__law_glued, Lib.b__law_glued, tupI]
  simp only [wp_cons, wp_nil, wx_asgi, ev_lit, ev_var, ev_gl, ev_tup, ev_lst, ev_bin, ev_neg, ev_cmp, ev_chain, ev_and, ev_or, ev_not, ev_ifx, ev_idx, ev_slc, ev_call, ev_blt, ev_isi, ev_isis, ev_mth, ev_lc, ei_val, ei_rng1, ei_rng2, ei_zip, ei_enum, wx_addL, ev_fmt, ev_fstr, ev_tupRg1, ev_tupRg2, wp_fmtS, wp_fmtI, wp_fstr, wp_tupRg, wx_reverse, wp_neg, wp_rng1, wp_rng2, evEs, ev_asg, ev_ex, ev_ret, ev_retn, ev_iff, ev_for, ev_pass, ev_brk, ev_cont, ev_nope, wp_no, evT, evAnd, evOr, evTA, evTO, evP, evC, wp_bnd, wp_ret, wp_opt, wp_see, wp_add, wp_sub, wx_mul, wx_fdiv, wx_mod, wx_addS, wx_addT, wx_idxT, wx_idxL, wx_int, wx_abs, wx_lenL, wx_lenT, wx_lenS, wx_strI, wx_tupT, wx_tupL, wx_listT, wx_listL, wx_listS, wx_slcT, wx_slcL, wx_append, wx_pop0, wx_joinL, wx_split, wx_find, wp_newL, wp_setL, then_nx, then_rt, then_bk, then_ct, fin_rt, fin_nx, asg_name, asg_tup, asgs_nil, asgs_cons, le_line, lt_line, cop_eq, cop_ne, cop_lt, cop_le, cop_gt, cop_ge, cop_in, cop_notin, cop_is0, cop_is1, cop_is2, cop_is3, cop_is4, cop_is5, eq_int, eq_bl, eq_str, tru_non, tru_bl, tru_int, tru_tup, tru_ref, tn_non, tn_bl, tn_int, tn_str, tn_tup, tn_ref, isTn, mt_append, mt_pop0, mt_pop, mt_reverse, mt_clear, mt_join, mt_split, mt_find, mt_startswith, mt_partition, wk_tup, wk_str, wk_ref,
    rdL_cons0, rdL_ro0, rdL_succ, rdM_cons0, rdM_succ, List.map_cons, List.map_nil, List.replicate_succ, List.replicate_zero, List.cons_append, List.nil_append, List.append_nil, List.append_assoc, rdL_at, rdL_at0, rdM_at, rdM_at0, set_at, set_at0, List.length_append, Nat.add_assoc, List.getElem?_cons_succ, List.getElem?_cons_zero, List.set_cons_succ, List.set_cons_zero, Nat.reduceSub, Nat.reduceAdd, Option.map_some, Option.bind_some, Option.some.injEq, exists_eq_left', exists_eq_left, exists_eq', exists_and_left, exists_const, D.int.injEq, D.ref.injEq, D.str.injEq, D.bl.injEq, D.tup.injEq, true_and, and_true, List.length_cons, List.length_nil, atI_lit, ixN_lit, Nat.reduceLT, Nat.reduceLeDiff, Nat.reduceEqDiff, Int.reduceLT, Int.reduceLE, Int.reduceEq, Nat.lt_irrefl, Nat.zero_lt_succ, Nat.reduceMul, Int.reduceNeg, Bool.false_eq_true, if_true, if_false, Nat.zero_add, nlit, eq_self, decide_true, decide_false, reduceIte, Bool.or_false, Bool.false_or, Bool.true_or, Bool.or_true, Bool.and_true, Bool.true_and, Bool.and_false, Bool.false_and, Bool.not_true, Bool.not_false, List.all_cons, List.all_nil, List.any_cons, List.any_nil]
  refine comp_str (by simp) hx hl fun S1 g => ?_
  simp only [wp_cons, wp_nil, wx_asgi, ev_lit, ev_var, ev_gl, ev_tup, ev_lst, ev_bin, ev_neg, ev_cmp, ev_chain, ev_and, ev_or, ev_not, ev_ifx, ev_idx, ev_slc, ev_call, ev_blt, ev_isi, ev_isis, ev_mth, ev_lc, ei_val, ei_rng1, ei_rng2, ei_zip, ei_enum, wx_addL, ev_fmt, ev_fstr, ev_tupRg1, ev_tupRg2, wp_fmtS, wp_fmtI, wp_fstr, wp_tupRg, wx_reverse, wp_neg, wp_rng1, wp_rng2, evEs, ev_asg, ev_ex, ev_ret, ev_retn, ev_iff, ev_for, ev_pass, ev_brk, ev_cont, ev_nope, wp_no, evT, evAnd, evOr, evTA, evTO, evP, evC, wp_bnd, wp_ret, wp_opt, wp_see, wp_add, wp_sub, wx_mul, wx_fdiv, wx_mod, wx_addS, wx_addT, wx_idxT, wx_idxL, wx_int, wx_abs, wx_lenL, wx_lenT, wx_lenS, wx_strI, wx_tupT, wx_tupL, wx_listT, wx_listL, wx_listS, wx_slcT, wx_slcL, wx_append, wx_pop0, wx_joinL, wx_split, wx_find, wp_newL, wp_setL, then_nx, then_rt, then_bk, then_ct, fin_rt, fin_nx, asg_name, asg_tup, asgs_nil, asgs_cons, le_line, lt_line, cop_eq, cop_ne, cop_lt, cop_le, cop_gt, cop_ge, cop_in, cop_notin, cop_is0, cop_is1, cop_is2, cop_is3, cop_is4, cop_is5, eq_int, eq_bl, eq_str, tru_non, tru_bl, tru_int, tru_tup, tru_ref, tn_non, tn_bl, tn_int, tn_str, tn_tup, tn_ref, isTn, mt_append, mt_pop0, mt_pop, mt_reverse, mt_clear, mt_join, mt_split, mt_find, mt_startswith, mt_partition, wk_tup, wk_str, wk_ref,
    rdL_cons0, rdL_ro0, rdL_succ, rdM_cons0, rdM_succ, List.map_cons, List.map_nil, List.replicate_succ, List.replicate_zero, List.cons_append, List.nil_append, List.append_nil, List.append_assoc, rdL_at, rdL_at0, rdM_at, rdM_at0, set_at, set_at0, List.length_append, Nat.add_assoc, List.getElem?_cons_succ, List.getElem?_cons_zero, List.set_cons_succ, List.set_cons_zero, Nat.reduceSub, Nat.reduceAdd, Option.map_some, Option.bind_some, Option.some.injEq, exists_eq_left', exists_eq_left, exists_eq', exists_and_left, exists_const, D.int.injEq, D.ref.injEq, D.str.injEq, D.bl.injEq, D.tup.injEq, true_and, and_true, List.length_cons, List.length_nil, atI_lit, ixN_lit, Nat.reduceLT, Nat.reduceLeDiff, Nat.reduceEqDiff, Int.reduceLT, Int.reduceLE, Int.reduceEq, Nat.lt_irrefl, Nat.zero_lt_succ, Nat.reduceMul, Int.reduceNeg, Bool.false_eq_true, if_true, if_false, Nat.zero_add, nlit, eq_self, decide_true, decide_false, reduceIte, Bool.or_false, Bool.false_or, Bool.true_or, Bool.or_true, Bool.and_true, Bool.true_and, Bool.and_false, Bool.false_and, Bool.not_true, Bool.not_false, List.all_cons, List.all_nil, List.any_cons, List.any_nil]
  exact ⟨_, strsOf_map (xs.map dig), join_le hx hl (by decide +kernel), rfl, g.one _⟩
end
end My

/-! A rule is a rule. -/
namespace My
open PySem PySem.Spec PyProof.Rows L2
theorem allO_int {S : Store} {f : Nat} : ∀ xs : List Int, allO (toP S f) (xs.map .int) = some (xs.map PyData.int)
  | [] => rfl
  | x :: xs => by
    have e : toP S f (.int x) = some (.int x) := by cases f <;> simp only [toP]
    simp only [List.map_cons, allO, e, allO_int xs]
theorem toP_tupI {S : Store} {f : Nat} (xs : List Int) : toP S (f + 1) (tupI xs) = some (.tuple (xs.map .int)) := by
  simp only [tupI, toP, allO_int, Option.map_some]
theorem eq_tupI_nil {S : Store} {xs : List Int} (h : xs ≠ []) : eqF S (tupI xs) (.tup []) = some false := by
  have e1 := toP_tupI (S := S) (f := 15) xs
  have e2 := toP_tupI (S := S) (f := 15) []
  cases xs with
  | nil => exact (h rfl).elim
  | cons x xs =>
    have e : eqF S (tupI (x :: xs)) (.tup []) = (match toP S 16 (tupI (x :: xs)), toP S 16 (.tup []) with
      | some x, some y => some (PyData.eqv x y)
      | _, _ => none) := rfl
    have e3 : toP S 16 (.tup []) = some (.tuple []) := e2
    rw [e, e1, e3]
    simp only [List.map_cons, PyData.eqv, PyData.eqvAll]
section
variable {ds : List Df} {con : Str → Option D} {fuel k : Nat} {S : Store}
theorem is_integer_ok (h : FD ds Lib.df_is_integer) {i : Int} : Pu (callD ds con fuel (k + 1) "is_integer" [.int i]) S (.bl true) := by
  refine pu_call h rfl rfl ?_
  simp only [Lib.df_is_integer, Lib.b_is_integer]
  simp only [wp_cons, wp_nil, wx_asgi, ev_lit, ev_var, ev_gl, ev_tup, ev_lst, ev_bin, ev_neg, ev_cmp, ev_chain, ev_and, ev_or, ev_not, ev_ifx, ev_idx, ev_slc, ev_call, ev_blt, ev_isi, ev_isis, ev_mth, ev_lc, ei_val, ei_rng1, ei_rng2, ei_zip, ei_enum, wx_addL, ev_fmt, ev_fstr, ev_tupRg1, ev_tupRg2, wp_fmtS, wp_fmtI, wp_fstr, wp_tupRg, wx_reverse, wp_neg, wp_rng1, wp_rng2, evEs, ev_asg, ev_ex, ev_ret, ev_retn, ev_iff, ev_for, ev_pass, ev_brk, ev_cont, ev_nope, wp_no, evT, evAnd, evOr, evTA, evTO, evP, evC, wp_bnd, wp_ret, wp_opt, wp_see, wp_add, wp_sub, wx_mul, wx_fdiv, wx_mod, wx_addS, wx_addT, wx_idxT, wx_idxL, wx_int, wx_abs, wx_lenL, wx_lenT, wx_lenS, wx_strI, wx_tupT, wx_tupL, wx_listT, wx_listL, wx_listS, wx_slcT, wx_slcL, wx_append, wx_pop0, wx_joinL, wx_split, wx_find, wp_newL, wp_setL, then_nx, then_rt, then_bk, then_ct, fin_rt, fin_nx, asg_name, asg_tup, asgs_nil, asgs_cons, le_line, lt_line, cop_eq, cop_ne, cop_lt, cop_le, cop_gt, cop_ge, cop_in, cop_notin, cop_is0, cop_is1, cop_is2, cop_is3, cop_is4, cop_is5, eq_int, eq_bl, eq_str, tru_non, tru_bl, tru_int, tru_tup, tru_ref, tn_non, tn_bl, tn_int, tn_str, tn_tup, tn_ref, isTn, mt_append, mt_pop0, mt_pop, mt_reverse, mt_clear, mt_join, mt_split, mt_find, mt_startswith, mt_partition, wk_tup, wk_str, wk_ref,
    rdL_cons0, rdL_ro0, rdL_succ, rdM_cons0, rdM_succ, List.map_cons, List.map_nil, List.replicate_succ, List.replicate_zero, List.cons_append, List.nil_append, List.append_nil, List.append_assoc, rdL_at, rdL_at0, rdM_at, rdM_at0, set_at, set_at0, List.length_append, Nat.add_assoc, List.getElem?_cons_succ, List.getElem?_cons_zero, List.set_cons_succ, List.set_cons_zero, Nat.reduceSub, Nat.reduceAdd, Option.map_some, Option.bind_some, Option.some.injEq, exists_eq_left', exists_eq_left, exists_eq', exists_and_left, exists_const, D.int.injEq, D.ref.injEq, D.str.injEq, D.bl.injEq, D.tup.injEq, true_and, and_true, List.length_cons, List.length_nil, atI_lit, ixN_lit, Nat.reduceLT, Nat.reduceLeDiff, Nat.reduceEqDiff, Int.reduceLT, Int.reduceLE, Int.reduceEq, Nat.lt_irrefl, Nat.zero_lt_succ, Nat.reduceMul, Int.reduceNeg, Bool.false_eq_true, if_true, if_false, Nat.zero_add, nlit, eq_self, decide_true, decide_false, reduceIte, Bool.or_false, Bool.false_or, Bool.true_or, Bool.or_true, Bool.and_true, Bool.true_and, Bool.and_false, Bool.false_and, Bool.not_true, Bool.not_false, List.all_cons, List.all_nil, List.any_cons, List.any_nil]
  exact .refl _
theorem is_ascending_ok (h : FD ds Lib.df_is_ascending) (h1 : FD ds Lib.df_is_integer) {m : Int} {xs : List Int} (hx : Asc m xs) : Pu (callD ds con fuel (k + 2) "is_ascending" [tupI xs, .int m]) S (.bl true) := by
  refine pu_call h rfl rfl ?_
  simp only [Lib.df_is_ascending, Lib.b_is_ascending, tupI]
  simp only [wp_cons, wp_nil, wx_asgi, ev_lit, ev_var, ev_gl, ev_tup, ev_lst, ev_bin, ev_neg, ev_cmp, ev_chain, ev_and, ev_or, ev_not, ev_ifx, ev_idx, ev_slc, ev_call, ev_blt, ev_isi, ev_isis, ev_mth, ev_lc, ei_val, ei_rng1, ei_rng2, ei_zip, ei_enum, wx_addL, ev_fmt, ev_fstr, ev_tupRg1, ev_tupRg2, wp_fmtS, wp_fmtI, wp_fstr, wp_tupRg, wx_reverse, wp_neg, wp_rng1, wp_rng2, evEs, ev_asg, ev_ex, ev_ret, ev_retn, ev_iff, ev_for, ev_pass, ev_brk, ev_cont, ev_nope, wp_no, evT, evAnd, evOr, evTA, evTO, evP, evC, wp_bnd, wp_ret, wp_opt, wp_see, wp_add, wp_sub, wx_mul, wx_fdiv, wx_mod, wx_addS, wx_addT, wx_idxT, wx_idxL, wx_int, wx_abs, wx_lenL, wx_lenT, wx_lenS, wx_strI, wx_tupT, wx_tupL, wx_listT, wx_listL, wx_listS, wx_slcT, wx_slcL, wx_append, wx_pop0, wx_joinL, wx_split, wx_find, wp_newL, wp_setL, then_nx, then_rt, then_bk, then_ct, fin_rt, fin_nx, asg_name, asg_tup, asgs_nil, asgs_cons, le_line, lt_line, cop_eq, cop_ne, cop_lt, cop_le, cop_gt, cop_ge, cop_in, cop_notin, cop_is0, cop_is1, cop_is2, cop_is3, cop_is4, cop_is5, eq_int, eq_bl, eq_str, tru_non, tru_bl, tru_int, tru_tup, tru_ref, tn_non, tn_bl, tn_int, tn_str, tn_tup, tn_ref, isTn, mt_append, mt_pop0, mt_pop, mt_reverse, mt_clear, mt_join, mt_split, mt_find, mt_startswith, mt_partition, wk_tup, wk_str, wk_ref,
    rdL_cons0, rdL_ro0, rdL_succ, rdM_cons0, rdM_succ, List.map_cons, List.map_nil, List.replicate_succ, List.replicate_zero, List.cons_append, List.nil_append, List.append_nil, List.append_assoc, rdL_at, rdL_at0, rdM_at, rdM_at0, set_at, set_at0, List.length_append, Nat.add_assoc, List.getElem?_cons_succ, List.getElem?_cons_zero, List.set_cons_succ, List.set_cons_zero, Nat.reduceSub, Nat.reduceAdd, Option.map_some, Option.bind_some, Option.some.injEq, exists_eq_left', exists_eq_left, exists_eq', exists_and_left, exists_const, D.int.injEq, D.ref.injEq, D.str.injEq, D.bl.injEq, D.tup.injEq, true_and, and_true, List.length_cons, List.length_nil, atI_lit, ixN_lit, Nat.reduceLT, Nat.reduceLeDiff, Nat.reduceEqDiff, Int.reduceLT, Int.reduceLE, Int.reduceEq, Nat.lt_irrefl, Nat.zero_lt_succ, Nat.reduceMul, Int.reduceNeg, Bool.false_eq_true, if_true, if_false, Nat.zero_add, nlit, eq_self, decide_true, decide_false, reduceIte, Bool.or_false, Bool.false_or, Bool.true_or, Bool.or_true, Bool.and_true, Bool.true_and, Bool.and_false, Bool.false_and, Bool.not_true, Bool.not_false, List.all_cons, List.all_nil, List.any_cons, List.any_nil]
  obtain ⟨I, hI⟩ : ∃ I : Nat → Env → Store → Prop, ∀ i ρ S', I i ρ S' ↔ (∃ (a3 : Option D) (least : Int), ρ = [some (.tup (xs.map .int)), some (.int m), some (.int least), a3] ∧ (∀ x ∈ xs.drop i, least ≤ x) ∧ Gr S S') := ⟨_, fun _ _ _ => Iff.rfl⟩
  refine loop_wp (w := wkItems (xs.map .int)) I (fun i ρ S1 hi hh => ?_) (fun ρ S1 hh => ?_) _ 0 _ _ (by simp [wkItems]) ((hI _ _ _).mpr ⟨none, 0, rfl, fun x hx' => (hx.2 x hx').1, .refl _⟩)
  · obtain ⟨a3, least, rfl, hl, g⟩ := (hI _ _ _).mp hh
    have hi : i < xs.length := by simpa [wkItems] using hi
    refine ⟨.int xs[i], by simp [wkItems, List.getElem?_eq_getElem hi], ?_⟩
    have hxi := hx.2 xs[i] (List.getElem_mem hi)
    have hd : xs.drop i = xs[i] :: xs.drop (i + 1) := List.drop_eq_getElem_cons hi
    have hle := hl xs[i] (by rw [hd]; exact List.mem_cons_self)
    rw [wx_stepF]
    simp only [wp_cons, wp_nil, wx_asgi, ev_lit, ev_var, ev_gl, ev_tup, ev_lst, ev_bin, ev_neg, ev_cmp, ev_chain, ev_and, ev_or, ev_not, ev_ifx, ev_idx, ev_slc, ev_call, ev_blt, ev_isi, ev_isis, ev_mth, ev_lc, ei_val, ei_rng1, ei_rng2, ei_zip, ei_enum, wx_addL, ev_fmt, ev_fstr, ev_tupRg1, ev_tupRg2, wp_fmtS, wp_fmtI, wp_fstr, wp_tupRg, wx_reverse, wp_neg, wp_rng1, wp_rng2, evEs, ev_asg, ev_ex, ev_ret, ev_retn, ev_iff, ev_for, ev_pass, ev_brk, ev_cont, ev_nope, wp_no, evT, evAnd, evOr, evTA, evTO, evP, evC, wp_bnd, wp_ret, wp_opt, wp_see, wp_add, wp_sub, wx_mul, wx_fdiv, wx_mod, wx_addS, wx_addT, wx_idxT, wx_idxL, wx_int, wx_abs, wx_lenL, wx_lenT, wx_lenS, wx_strI, wx_tupT, wx_tupL, wx_listT, wx_listL, wx_listS, wx_slcT, wx_slcL, wx_append, wx_pop0, wx_joinL, wx_split, wx_find, wp_newL, wp_setL, then_nx, then_rt, then_bk, then_ct, fin_rt, fin_nx, asg_name, asg_tup, asgs_nil, asgs_cons, le_line, lt_line, cop_eq, cop_ne, cop_lt, cop_le, cop_gt, cop_ge, cop_in, cop_notin, cop_is0, cop_is1, cop_is2, cop_is3, cop_is4, cop_is5, eq_int, eq_bl, eq_str, tru_non, tru_bl, tru_int, tru_tup, tru_ref, tn_non, tn_bl, tn_int, tn_str, tn_tup, tn_ref, isTn, mt_append, mt_pop0, mt_pop, mt_reverse, mt_clear, mt_join, mt_split, mt_find, mt_startswith, mt_partition, wk_tup, wk_str, wk_ref,
    rdL_cons0, rdL_ro0, rdL_succ, rdM_cons0, rdM_succ, List.map_cons, List.map_nil, List.replicate_succ, List.replicate_zero, List.cons_append, List.nil_append, List.append_nil, List.append_assoc, rdL_at, rdL_at0, rdM_at, rdM_at0, set_at, set_at0, List.length_append, Nat.add_assoc, List.getElem?_cons_succ, List.getElem?_cons_zero, List.set_cons_succ, List.set_cons_zero, Nat.reduceSub, Nat.reduceAdd, Option.map_some, Option.bind_some, Option.some.injEq, exists_eq_left', exists_eq_left, exists_eq', exists_and_left, exists_const, D.int.injEq, D.ref.injEq, D.str.injEq, D.bl.injEq, D.tup.injEq, true_and, and_true, List.length_cons, List.length_nil, atI_lit, ixN_lit, Nat.reduceLT, Nat.reduceLeDiff, Nat.reduceEqDiff, Int.reduceLT, Int.reduceLE, Int.reduceEq, Nat.lt_irrefl, Nat.zero_lt_succ, Nat.reduceMul, Int.reduceNeg, Bool.false_eq_true, if_true, if_false, Nat.zero_add, nlit, eq_self, decide_true, decide_false, reduceIte, Bool.or_false, Bool.false_or, Bool.true_or, Bool.or_true, Bool.and_true, Bool.true_and, Bool.and_false, Bool.false_and, Bool.not_true, Bool.not_false, List.all_cons, List.all_nil, List.any_cons, List.any_nil]
    refine (is_integer_ok h1).to fun S2 g2 => ?_
    have c1 : decide (xs[i] < least) = false := decide_eq_false (by omega)
    have c2 : decide (m ≤ xs[i]) = false := decide_eq_false (by omega)
    simp only [wp_cons, wp_nil, wx_asgi, ev_lit, ev_var, ev_gl, ev_tup, ev_lst, ev_bin, ev_neg, ev_cmp, ev_chain, ev_and, ev_or, ev_not, ev_ifx, ev_idx, ev_slc, ev_call, ev_blt, ev_isi, ev_isis, ev_mth, ev_lc, ei_val, ei_rng1, ei_rng2, ei_zip, ei_enum, wx_addL, ev_fmt, ev_fstr, ev_tupRg1, ev_tupRg2, wp_fmtS, wp_fmtI, wp_fstr, wp_tupRg, wx_reverse, wp_neg, wp_rng1, wp_rng2, evEs, ev_asg, ev_ex, ev_ret, ev_retn, ev_iff, ev_for, ev_pass, ev_brk, ev_cont, ev_nope, wp_no, evT, evAnd, evOr, evTA, evTO, evP, evC, wp_bnd, wp_ret, wp_opt, wp_see, wp_add, wp_sub, wx_mul, wx_fdiv, wx_mod, wx_addS, wx_addT, wx_idxT, wx_idxL, wx_int, wx_abs, wx_lenL, wx_lenT, wx_lenS, wx_strI, wx_tupT, wx_tupL, wx_listT, wx_listL, wx_listS, wx_slcT, wx_slcL, wx_append, wx_pop0, wx_joinL, wx_split, wx_find, wp_newL, wp_setL, then_nx, then_rt, then_bk, then_ct, fin_rt, fin_nx, asg_name, asg_tup, asgs_nil, asgs_cons, le_line, lt_line, cop_eq, cop_ne, cop_lt, cop_le, cop_gt, cop_ge, cop_in, cop_notin, cop_is0, cop_is1, cop_is2, cop_is3, cop_is4, cop_is5, eq_int, eq_bl, eq_str, tru_non, tru_bl, tru_int, tru_tup, tru_ref, tn_non, tn_bl, tn_int, tn_str, tn_tup, tn_ref, isTn, mt_append, mt_pop0, mt_pop, mt_reverse, mt_clear, mt_join, mt_split, mt_find, mt_startswith, mt_partition, wk_tup, wk_str, wk_ref,
    rdL_cons0, rdL_ro0, rdL_succ, rdM_cons0, rdM_succ, List.map_cons, List.map_nil, List.replicate_succ, List.replicate_zero, List.cons_append, List.nil_append, List.append_nil, List.append_assoc, rdL_at, rdL_at0, rdM_at, rdM_at0, set_at, set_at0, List.length_append, Nat.add_assoc, List.getElem?_cons_succ, List.getElem?_cons_zero, List.set_cons_succ, List.set_cons_zero, Nat.reduceSub, Nat.reduceAdd, Option.map_some, Option.bind_some, Option.some.injEq, exists_eq_left', exists_eq_left, exists_eq', exists_and_left, exists_const, D.int.injEq, D.ref.injEq, D.str.injEq, D.bl.injEq, D.tup.injEq, true_and, and_true, List.length_cons, List.length_nil, atI_lit, ixN_lit, Nat.reduceLT, Nat.reduceLeDiff, Nat.reduceEqDiff, Int.reduceLT, Int.reduceLE, Int.reduceEq, Nat.lt_irrefl, Nat.zero_lt_succ, Nat.reduceMul, Int.reduceNeg, Bool.false_eq_true, if_true, if_false, Nat.zero_add, nlit, eq_self, decide_true, decide_false, reduceIte, Bool.or_false, Bool.false_or, Bool.true_or, Bool.or_true, Bool.and_true, Bool.true_and, Bool.and_false, Bool.false_and, Bool.not_true, Bool.not_false, List.all_cons, List.all_nil, List.any_cons, List.any_nil, c1, c2]
    refine (hI (i + 1) _ _).mpr ⟨_, _, rfl, fun x hx' => ?_, g.trans g2⟩
    have hp : (xs.drop i).Pairwise (· < ·) := hx.1.sublist (List.drop_sublist _ _)
    rw [hd] at hp
    have := (List.pairwise_cons.mp hp).1 x hx'
    omega
  · obtain ⟨a3, least, rfl, hl, g⟩ := (hI _ _ _).mp hh
    refine ⟨rfl, ?_⟩
    simp only [wp_cons, wp_nil, wx_asgi, ev_lit, ev_var, ev_gl, ev_tup, ev_lst, ev_bin, ev_neg, ev_cmp, ev_chain, ev_and, ev_or, ev_not, ev_ifx, ev_idx, ev_slc, ev_call, ev_blt, ev_isi, ev_isis, ev_mth, ev_lc, ei_val, ei_rng1, ei_rng2, ei_zip, ei_enum, wx_addL, ev_fmt, ev_fstr, ev_tupRg1, ev_tupRg2, wp_fmtS, wp_fmtI, wp_fstr, wp_tupRg, wx_reverse, wp_neg, wp_rng1, wp_rng2, evEs, ev_asg, ev_ex, ev_ret, ev_retn, ev_iff, ev_for, ev_pass, ev_brk, ev_cont, ev_nope, wp_no, evT, evAnd, evOr, evTA, evTO, evP, evC, wp_bnd, wp_ret, wp_opt, wp_see, wp_add, wp_sub, wx_mul, wx_fdiv, wx_mod, wx_addS, wx_addT, wx_idxT, wx_idxL, wx_int, wx_abs, wx_lenL, wx_lenT, wx_lenS, wx_strI, wx_tupT, wx_tupL, wx_listT, wx_listL, wx_listS, wx_slcT, wx_slcL, wx_append, wx_pop0, wx_joinL, wx_split, wx_find, wp_newL, wp_setL, then_nx, then_rt, then_bk, then_ct, fin_rt, fin_nx, asg_name, asg_tup, asgs_nil, asgs_cons, le_line, lt_line, cop_eq, cop_ne, cop_lt, cop_le, cop_gt, cop_ge, cop_in, cop_notin, cop_is0, cop_is1, cop_is2, cop_is3, cop_is4, cop_is5, eq_int, eq_bl, eq_str, tru_non, tru_bl, tru_int, tru_tup, tru_ref, tn_non, tn_bl, tn_int, tn_str, tn_tup, tn_ref, isTn, mt_append, mt_pop0, mt_pop, mt_reverse, mt_clear, mt_join, mt_split, mt_find, mt_startswith, mt_partition, wk_tup, wk_str, wk_ref,
    rdL_cons0, rdL_ro0, rdL_succ, rdM_cons0, rdM_succ, List.map_cons, List.map_nil, List.replicate_succ, List.replicate_zero, List.cons_append, List.nil_append, List.append_nil, List.append_assoc, rdL_at, rdL_at0, rdM_at, rdM_at0, set_at, set_at0, List.length_append, Nat.add_assoc, List.getElem?_cons_succ, List.getElem?_cons_zero, List.set_cons_succ, List.set_cons_zero, Nat.reduceSub, Nat.reduceAdd, Option.map_some, Option.bind_some, Option.some.injEq, exists_eq_left', exists_eq_left, exists_eq', exists_and_left, exists_const, D.int.injEq, D.ref.injEq, D.str.injEq, D.bl.injEq, D.tup.injEq, true_and, and_true, List.length_cons, List.length_nil, atI_lit, ixN_lit, Nat.reduceLT, Nat.reduceLeDiff, Nat.reduceEqDiff, Int.reduceLT, Int.reduceLE, Int.reduceEq, Nat.lt_irrefl, Nat.zero_lt_succ, Nat.reduceMul, Int.reduceNeg, Bool.false_eq_true, if_true, if_false, Nat.zero_add, nlit, eq_self, decide_true, decide_false, reduceIte, Bool.or_false, Bool.false_or, Bool.true_or, Bool.or_true, Bool.and_true, Bool.true_and, Bool.and_false, Bool.false_and, Bool.not_true, Bool.not_false, List.all_cons, List.all_nil, List.any_cons, List.any_nil]
    exact g
theorem is_word_ok (h : FD ds Lib.df_is_word) {x : Str} {ys : List Str} (hx : x ∈ ys) : Pu (callD ds con fuel (k + 1) "is_word" [.str x, .tup (ys.map .str)]) S (.bl true) := by
  refine pu_call h rfl rfl ?_
  simp only [Lib.df_is_word, Lib.b_is_word]
  simp only [wp_cons, wp_nil, wx_asgi, ev_lit, ev_var, ev_gl, ev_tup, ev_lst, ev_bin, ev_neg, ev_cmp, ev_chain, ev_and, ev_or, ev_not, ev_ifx, ev_idx, ev_slc, ev_call, ev_blt, ev_isi, ev_isis, ev_mth, ev_lc, ei_val, ei_rng1, ei_rng2, ei_zip, ei_enum, wx_addL, ev_fmt, ev_fstr, ev_tupRg1, ev_tupRg2, wp_fmtS, wp_fmtI, wp_fstr, wp_tupRg, wx_reverse, wp_neg, wp_rng1, wp_rng2, evEs, ev_asg, ev_ex, ev_ret, ev_retn, ev_iff, ev_for, ev_pass, ev_brk, ev_cont, ev_nope, wp_no, evT, evAnd, evOr, evTA, evTO, evP, evC, wp_bnd, wp_ret, wp_opt, wp_see, wp_add, wp_sub, wx_mul, wx_fdiv, wx_mod, wx_addS, wx_addT, wx_idxT, wx_idxL, wx_int, wx_abs, wx_lenL, wx_lenT, wx_lenS, wx_strI, wx_tupT, wx_tupL, wx_listT, wx_listL, wx_listS, wx_slcT, wx_slcL, wx_append, wx_pop0, wx_joinL, wx_split, wx_find, wp_newL, wp_setL, then_nx, then_rt, then_bk, then_ct, fin_rt, fin_nx, asg_name, asg_tup, asgs_nil, asgs_cons, le_line, lt_line, cop_eq, cop_ne, cop_lt, cop_le, cop_gt, cop_ge, cop_in, cop_notin, cop_is0, cop_is1, cop_is2, cop_is3, cop_is4, cop_is5, eq_int, eq_bl, eq_str, tru_non, tru_bl, tru_int, tru_tup, tru_ref, tn_non, tn_bl, tn_int, tn_str, tn_tup, tn_ref, isTn, mt_append, mt_pop0, mt_pop, mt_reverse, mt_clear, mt_join, mt_split, mt_find, mt_startswith, mt_partition, wk_tup, wk_str, wk_ref,
    rdL_cons0, rdL_ro0, rdL_succ, rdM_cons0, rdM_succ, List.map_cons, List.map_nil, List.replicate_succ, List.replicate_zero, List.cons_append, List.nil_append, List.append_nil, List.append_assoc, rdL_at, rdL_at0, rdM_at, rdM_at0, set_at, set_at0, List.length_append, Nat.add_assoc, List.getElem?_cons_succ, List.getElem?_cons_zero, List.set_cons_succ, List.set_cons_zero, Nat.reduceSub, Nat.reduceAdd, Option.map_some, Option.bind_some, Option.some.injEq, exists_eq_left', exists_eq_left, exists_eq', exists_and_left, exists_const, D.int.injEq, D.ref.injEq, D.str.injEq, D.bl.injEq, D.tup.injEq, true_and, and_true, List.length_cons, List.length_nil, atI_lit, ixN_lit, Nat.reduceLT, Nat.reduceLeDiff, Nat.reduceEqDiff, Int.reduceLT, Int.reduceLE, Int.reduceEq, Nat.lt_irrefl, Nat.zero_lt_succ, Nat.reduceMul, Int.reduceNeg, Bool.false_eq_true, if_true, if_false, Nat.zero_add, nlit, eq_self, decide_true, decide_false, reduceIte, Bool.or_false, Bool.false_or, Bool.true_or, Bool.or_true, Bool.and_true, Bool.true_and, Bool.and_false, Bool.false_and, Bool.not_true, Bool.not_false, List.all_cons, List.all_nil, List.any_cons, List.any_nil]
  have e : inF S (.str x) (.tup (ys.map .str)) = some true := by
    unfold inF seqOf
    have h1 : (flatD (.str x) && (ys.map D.str).all flatD) = true := by
      simp [flatD]
    have h2 : ((ys.map D.str).any fun z => eqFlat z (.str x)) = true := by
      simp only [List.any_map, List.any_eq_true]
      exact ⟨x, hx, by simp [eqFlat]⟩
    simp only [h1, h2, if_true]
  simp only [wp_cons, wp_nil, wx_asgi, ev_lit, ev_var, ev_gl, ev_tup, ev_lst, ev_bin, ev_neg, ev_cmp, ev_chain, ev_and, ev_or, ev_not, ev_ifx, ev_idx, ev_slc, ev_call, ev_blt, ev_isi, ev_isis, ev_mth, ev_lc, ei_val, ei_rng1, ei_rng2, ei_zip, ei_enum, wx_addL, ev_fmt, ev_fstr, ev_tupRg1, ev_tupRg2, wp_fmtS, wp_fmtI, wp_fstr, wp_tupRg, wx_reverse, wp_neg, wp_rng1, wp_rng2, evEs, ev_asg, ev_ex, ev_ret, ev_retn, ev_iff, ev_for, ev_pass, ev_brk, ev_cont, ev_nope, wp_no, evT, evAnd, evOr, evTA, evTO, evP, evC, wp_bnd, wp_ret, wp_opt, wp_see, wp_add, wp_sub, wx_mul, wx_fdiv, wx_mod, wx_addS, wx_addT, wx_idxT, wx_idxL, wx_int, wx_abs, wx_lenL, wx_lenT, wx_lenS, wx_strI, wx_tupT, wx_tupL, wx_listT, wx_listL, wx_listS, wx_slcT, wx_slcL, wx_append, wx_pop0, wx_joinL, wx_split, wx_find, wp_newL, wp_setL, then_nx, then_rt, then_bk, then_ct, fin_rt, fin_nx, asg_name, asg_tup, asgs_nil, asgs_cons, le_line, lt_line, cop_eq, cop_ne, cop_lt, cop_le, cop_gt, cop_ge, cop_in, cop_notin, cop_is0, cop_is1, cop_is2, cop_is3, cop_is4, cop_is5, eq_int, eq_bl, eq_str, tru_non, tru_bl, tru_int, tru_tup, tru_ref, tn_non, tn_bl, tn_int, tn_str, tn_tup, tn_ref, isTn, mt_append, mt_pop0, mt_pop, mt_reverse, mt_clear, mt_join, mt_split, mt_find, mt_startswith, mt_partition, wk_tup, wk_str, wk_ref,
    rdL_cons0, rdL_ro0, rdL_succ, rdM_cons0, rdM_succ, List.map_cons, List.map_nil, List.replicate_succ, List.replicate_zero, List.cons_append, List.nil_append, List.append_nil, List.append_assoc, rdL_at, rdL_at0, rdM_at, rdM_at0, set_at, set_at0, List.length_append, Nat.add_assoc, List.getElem?_cons_succ, List.getElem?_cons_zero, List.set_cons_succ, List.set_cons_zero, Nat.reduceSub, Nat.reduceAdd, Option.map_some, Option.bind_some, Option.some.injEq, exists_eq_left', exists_eq_left, exists_eq', exists_and_left, exists_const, D.int.injEq, D.ref.injEq, D.str.injEq, D.bl.injEq, D.tup.injEq, true_and, and_true, List.length_cons, List.length_nil, atI_lit, ixN_lit, Nat.reduceLT, Nat.reduceLeDiff, Nat.reduceEqDiff, Int.reduceLT, Int.reduceLE, Int.reduceEq, Nat.lt_irrefl, Nat.zero_lt_succ, Nat.reduceMul, Int.reduceNeg, Bool.false_eq_true, if_true, if_false, Nat.zero_add, nlit, eq_self, decide_true, decide_false, reduceIte, Bool.or_false, Bool.false_or, Bool.true_or, Bool.or_true, Bool.and_true, Bool.true_and, Bool.and_false, Bool.false_and, Bool.not_true, Bool.not_false, List.all_cons, List.all_nil, List.any_cons, List.any_nil, e]
  exact .refl _
def sendsD : D := .tup ([("whole" : Str), ("parts" : Str), ("filled" : Str)].map .str)
def looksD : D := .tup ([("into" : Str), ("past" : Str), ("first" : Str)].map .str)
theorem is_rule_ok (h : FD ds Lib.df_is_rule) (h1 : FD ds Lib.df_is_integer) (h2 : FD ds Lib.df_is_word) (h3 : FD ds Lib.df_is_ascending) (c1 : con "SENDS" = some sendsD) (c2 : con "LOOKS" = some looksD) {W : Wy} (ok : W.Ok) :
    Pu (callD ds con fuel (k + 3) "is_rule" [W.d]) S (.bl true) := by
  refine pu_call h rfl rfl ?_
  simp only [Lib.df_is_rule, Lib.b_is_rule, Wy.d]
  simp only [wp_cons, wp_nil, wx_asgi, ev_lit, ev_var, ev_gl, ev_tup, ev_lst, ev_bin, ev_neg, ev_cmp, ev_chain, ev_and, ev_or, ev_not, ev_ifx, ev_idx, ev_slc, ev_call, ev_blt, ev_isi, ev_isis, ev_mth, ev_lc, ei_val, ei_rng1, ei_rng2, ei_zip, ei_enum, wx_addL, ev_fmt, ev_fstr, ev_tupRg1, ev_tupRg2, wp_fmtS, wp_fmtI, wp_fstr, wp_tupRg, wx_reverse, wp_neg, wp_rng1, wp_rng2, evEs, ev_asg, ev_ex, ev_ret, ev_retn, ev_iff, ev_for, ev_pass, ev_brk, ev_cont, ev_nope, wp_no, evT, evAnd, evOr, evTA, evTO, evP, evC, wp_bnd, wp_ret, wp_opt, wp_see, wp_add, wp_sub, wx_mul, wx_fdiv, wx_mod, wx_addS, wx_addT, wx_idxT, wx_idxL, wx_int, wx_abs, wx_lenL, wx_lenT, wx_lenS, wx_strI, wx_tupT, wx_tupL, wx_listT, wx_listL, wx_listS, wx_slcT, wx_slcL, wx_append, wx_pop0, wx_joinL, wx_split, wx_find, wp_newL, wp_setL, then_nx, then_rt, then_bk, then_ct, fin_rt, fin_nx, asg_name, asg_tup, asgs_nil, asgs_cons, le_line, lt_line, cop_eq, cop_ne, cop_lt, cop_le, cop_gt, cop_ge, cop_in, cop_notin, cop_is0, cop_is1, cop_is2, cop_is3, cop_is4, cop_is5, eq_int, eq_bl, eq_str, tru_non, tru_bl, tru_int, tru_tup, tru_ref, tn_non, tn_bl, tn_int, tn_str, tn_tup, tn_ref, isTn, mt_append, mt_pop0, mt_pop, mt_reverse, mt_clear, mt_join, mt_split, mt_find, mt_startswith, mt_partition, wk_tup, wk_str, wk_ref,
    rdL_cons0, rdL_ro0, rdL_succ, rdM_cons0, rdM_succ, List.map_cons, List.map_nil, List.replicate_succ, List.replicate_zero, List.cons_append, List.nil_append, List.append_nil, List.append_assoc, rdL_at, rdL_at0, rdM_at, rdM_at0, set_at, set_at0, List.length_append, Nat.add_assoc, List.getElem?_cons_succ, List.getElem?_cons_zero, List.set_cons_succ, List.set_cons_zero, Nat.reduceSub, Nat.reduceAdd, Option.map_some, Option.bind_some, Option.some.injEq, exists_eq_left', exists_eq_left, exists_eq', exists_and_left, exists_const, D.int.injEq, D.ref.injEq, D.str.injEq, D.bl.injEq, D.tup.injEq, true_and, and_true, List.length_cons, List.length_nil, atI_lit, ixN_lit, Nat.reduceLT, Nat.reduceLeDiff, Nat.reduceEqDiff, Int.reduceLT, Int.reduceLE, Int.reduceEq, Nat.lt_irrefl, Nat.zero_lt_succ, Nat.reduceMul, Int.reduceNeg, Bool.false_eq_true, if_true, if_false, Nat.zero_add, nlit, eq_self, decide_true, decide_false, reduceIte, Bool.or_false, Bool.false_or, Bool.true_or, Bool.or_true, Bool.and_true, Bool.true_and, Bool.and_false, Bool.false_and, Bool.not_true, Bool.not_false, List.all_cons, List.all_nil, List.any_cons, List.any_nil]
  obtain ⟨I, hI⟩ : ∃ I : Nat → Env → Store → Prop, ∀ i ρ S', I i ρ S' ↔ (∃ a1 : Option D, ρ = [some (D.tup [D.int W.w, D.int W.l, D.int W.r, D.str W.snd, D.bl W.eag, D.str W.look, D.tup (List.map tupI W.kinds), tupI W.act]),
        a1, none, some (D.int W.w), some (D.int W.l), some (D.int W.r), some (D.str W.snd), some (D.bl W.eag), some (D.str W.look), some (D.tup (List.map tupI W.kinds)), some (tupI W.act)] ∧ Gr S S') := ⟨_, fun _ _ _ => Iff.rfl⟩
  refine loop_wp (w := wkItems _) I (fun i ρ S1 hi hh => ?_) (fun ρ S1 hh => ?_) _ 0 _ _ (by simp [wkItems]) ((hI _ _ _).mpr ⟨none, rfl, .refl _⟩)
  · obtain ⟨a1, rfl, g⟩ := (hI _ _ _).mp hh
    have hi : i < 3 := hi
    obtain ⟨v, e, hv⟩ : ∃ v : Int, [D.int W.w, D.int W.l, D.int W.r][i]? = some (.int v) ∧ 1 ≤ v ∧ v ≤ 3 := by
      obtain rfl | rfl | rfl : i = 0 ∨ i = 1 ∨ i = 2 := by omega
      · exact ⟨_, rfl, ok.w⟩
      · exact ⟨_, rfl, ok.l⟩
      · exact ⟨_, rfl, ok.r⟩
    refine ⟨.int v, e, ?_⟩
    rw [wx_stepF]
    simp only [wp_cons, wp_nil, wx_asgi, ev_lit, ev_var, ev_gl, ev_tup, ev_lst, ev_bin, ev_neg, ev_cmp, ev_chain, ev_and, ev_or, ev_not, ev_ifx, ev_idx, ev_slc, ev_call, ev_blt, ev_isi, ev_isis, ev_mth, ev_lc, ei_val, ei_rng1, ei_rng2, ei_zip, ei_enum, wx_addL, ev_fmt, ev_fstr, ev_tupRg1, ev_tupRg2, wp_fmtS, wp_fmtI, wp_fstr, wp_tupRg, wx_reverse, wp_neg, wp_rng1, wp_rng2, evEs, ev_asg, ev_ex, ev_ret, ev_retn, ev_iff, ev_for, ev_pass, ev_brk, ev_cont, ev_nope, wp_no, evT, evAnd, evOr, evTA, evTO, evP, evC, wp_bnd, wp_ret, wp_opt, wp_see, wp_add, wp_sub, wx_mul, wx_fdiv, wx_mod, wx_addS, wx_addT, wx_idxT, wx_idxL, wx_int, wx_abs, wx_lenL, wx_lenT, wx_lenS, wx_strI, wx_tupT, wx_tupL, wx_listT, wx_listL, wx_listS, wx_slcT, wx_slcL, wx_append, wx_pop0, wx_joinL, wx_split, wx_find, wp_newL, wp_setL, then_nx, then_rt, then_bk, then_ct, fin_rt, fin_nx, asg_name, asg_tup, asgs_nil, asgs_cons, le_line, lt_line, cop_eq, cop_ne, cop_lt, cop_le, cop_gt, cop_ge, cop_in, cop_notin, cop_is0, cop_is1, cop_is2, cop_is3, cop_is4, cop_is5, eq_int, eq_bl, eq_str, tru_non, tru_bl, tru_int, tru_tup, tru_ref, tn_non, tn_bl, tn_int, tn_str, tn_tup, tn_ref, isTn, mt_append, mt_pop0, mt_pop, mt_reverse, mt_clear, mt_join, mt_split, mt_find, mt_startswith, mt_partition, wk_tup, wk_str, wk_ref,
    rdL_cons0, rdL_ro0, rdL_succ, rdM_cons0, rdM_succ, List.map_cons, List.map_nil, List.replicate_succ, List.replicate_zero, List.cons_append, List.nil_append, List.append_nil, List.append_assoc, rdL_at, rdL_at0, rdM_at, rdM_at0, set_at, set_at0, List.length_append, Nat.add_assoc, List.getElem?_cons_succ, List.getElem?_cons_zero, List.set_cons_succ, List.set_cons_zero, Nat.reduceSub, Nat.reduceAdd, Option.map_some, Option.bind_some, Option.some.injEq, exists_eq_left', exists_eq_left, exists_eq', exists_and_left, exists_const, D.int.injEq, D.ref.injEq, D.str.injEq, D.bl.injEq, D.tup.injEq, true_and, and_true, List.length_cons, List.length_nil, atI_lit, ixN_lit, Nat.reduceLT, Nat.reduceLeDiff, Nat.reduceEqDiff, Int.reduceLT, Int.reduceLE, Int.reduceEq, Nat.lt_irrefl, Nat.zero_lt_succ, Nat.reduceMul, Int.reduceNeg, Bool.false_eq_true, if_true, if_false, Nat.zero_add, nlit, eq_self, decide_true, decide_false, reduceIte, Bool.or_false, Bool.false_or, Bool.true_or, Bool.or_true, Bool.and_true, Bool.true_and, Bool.and_false, Bool.false_and, Bool.not_true, Bool.not_false, List.all_cons, List.all_nil, List.any_cons, List.any_nil]
    refine (is_integer_ok h1).to fun S2 g2 => ?_
    have d1 : decide (v < 1) = false := decide_eq_false (by omega)
    have d2 : decide (3 < v) = false := decide_eq_false (by omega)
    simp only [wp_cons, wp_nil, wx_asgi, ev_lit, ev_var, ev_gl, ev_tup, ev_lst, ev_bin, ev_neg, ev_cmp, ev_chain, ev_and, ev_or, ev_not, ev_ifx, ev_idx, ev_slc, ev_call, ev_blt, ev_isi, ev_isis, ev_mth, ev_lc, ei_val, ei_rng1, ei_rng2, ei_zip, ei_enum, wx_addL, ev_fmt, ev_fstr, ev_tupRg1, ev_tupRg2, wp_fmtS, wp_fmtI, wp_fstr, wp_tupRg, wx_reverse, wp_neg, wp_rng1, wp_rng2, evEs, ev_asg, ev_ex, ev_ret, ev_retn, ev_iff, ev_for, ev_pass, ev_brk, ev_cont, ev_nope, wp_no, evT, evAnd, evOr, evTA, evTO, evP, evC, wp_bnd, wp_ret, wp_opt, wp_see, wp_add, wp_sub, wx_mul, wx_fdiv, wx_mod, wx_addS, wx_addT, wx_idxT, wx_idxL, wx_int, wx_abs, wx_lenL, wx_lenT, wx_lenS, wx_strI, wx_tupT, wx_tupL, wx_listT, wx_listL, wx_listS, wx_slcT, wx_slcL, wx_append, wx_pop0, wx_joinL, wx_split, wx_find, wp_newL, wp_setL, then_nx, then_rt, then_bk, then_ct, fin_rt, fin_nx, asg_name, asg_tup, asgs_nil, asgs_cons, le_line, lt_line, cop_eq, cop_ne, cop_lt, cop_le, cop_gt, cop_ge, cop_in, cop_notin, cop_is0, cop_is1, cop_is2, cop_is3, cop_is4, cop_is5, eq_int, eq_bl, eq_str, tru_non, tru_bl, tru_int, tru_tup, tru_ref, tn_non, tn_bl, tn_int, tn_str, tn_tup, tn_ref, isTn, mt_append, mt_pop0, mt_pop, mt_reverse, mt_clear, mt_join, mt_split, mt_find, mt_startswith, mt_partition, wk_tup, wk_str, wk_ref,
    rdL_cons0, rdL_ro0, rdL_succ, rdM_cons0, rdM_succ, List.map_cons, List.map_nil, List.replicate_succ, List.replicate_zero, List.cons_append, List.nil_append, List.append_nil, List.append_assoc, rdL_at, rdL_at0, rdM_at, rdM_at0, set_at, set_at0, List.length_append, Nat.add_assoc, List.getElem?_cons_succ, List.getElem?_cons_zero, List.set_cons_succ, List.set_cons_zero, Nat.reduceSub, Nat.reduceAdd, Option.map_some, Option.bind_some, Option.some.injEq, exists_eq_left', exists_eq_left, exists_eq', exists_and_left, exists_const, D.int.injEq, D.ref.injEq, D.str.injEq, D.bl.injEq, D.tup.injEq, true_and, and_true, List.length_cons, List.length_nil, atI_lit, ixN_lit, Nat.reduceLT, Nat.reduceLeDiff, Nat.reduceEqDiff, Int.reduceLT, Int.reduceLE, Int.reduceEq, Nat.lt_irrefl, Nat.zero_lt_succ, Nat.reduceMul, Int.reduceNeg, Bool.false_eq_true, if_true, if_false, Nat.zero_add, nlit, eq_self, decide_true, decide_false, reduceIte, Bool.or_false, Bool.false_or, Bool.true_or, Bool.or_true, Bool.and_true, Bool.true_and, Bool.and_false, Bool.false_and, Bool.not_true, Bool.not_false, List.all_cons, List.all_nil, List.any_cons, List.any_nil, d1, d2]
    exact (hI _ _ _).mpr ⟨_, rfl, g.trans g2⟩
  · obtain ⟨a1, rfl, g⟩ := (hI _ _ _).mp hh
    refine ⟨rfl, ?_⟩
    simp only [wp_cons, wp_nil, wx_asgi, ev_lit, ev_var, ev_gl, ev_tup, ev_lst, ev_bin, ev_neg, ev_cmp, ev_chain, ev_and, ev_or, ev_not, ev_ifx, ev_idx, ev_slc, ev_call, ev_blt, ev_isi, ev_isis, ev_mth, ev_lc, ei_val, ei_rng1, ei_rng2, ei_zip, ei_enum, wx_addL, ev_fmt, ev_fstr, ev_tupRg1, ev_tupRg2, wp_fmtS, wp_fmtI, wp_fstr, wp_tupRg, wx_reverse, wp_neg, wp_rng1, wp_rng2, evEs, ev_asg, ev_ex, ev_ret, ev_retn, ev_iff, ev_for, ev_pass, ev_brk, ev_cont, ev_nope, wp_no, evT, evAnd, evOr, evTA, evTO, evP, evC, wp_bnd, wp_ret, wp_opt, wp_see, wp_add, wp_sub, wx_mul, wx_fdiv, wx_mod, wx_addS, wx_addT, wx_idxT, wx_idxL, wx_int, wx_abs, wx_lenL, wx_lenT, wx_lenS, wx_strI, wx_tupT, wx_tupL, wx_listT, wx_listL, wx_listS, wx_slcT, wx_slcL, wx_append, wx_pop0, wx_joinL, wx_split, wx_find, wp_newL, wp_setL, then_nx, then_rt, then_bk, then_ct, fin_rt, fin_nx, asg_name, asg_tup, asgs_nil, asgs_cons, le_line, lt_line, cop_eq, cop_ne, cop_lt, cop_le, cop_gt, cop_ge, cop_in, cop_notin, cop_is0, cop_is1, cop_is2, cop_is3, cop_is4, cop_is5, eq_int, eq_bl, eq_str, tru_non, tru_bl, tru_int, tru_tup, tru_ref, tn_non, tn_bl, tn_int, tn_str, tn_tup, tn_ref, isTn, mt_append, mt_pop0, mt_pop, mt_reverse, mt_clear, mt_join, mt_split, mt_find, mt_startswith, mt_partition, wk_tup, wk_str, wk_ref,
    rdL_cons0, rdL_ro0, rdL_succ, rdM_cons0, rdM_succ, List.map_cons, List.map_nil, List.replicate_succ, List.replicate_zero, List.cons_append, List.nil_append, List.append_nil, List.append_assoc, rdL_at, rdL_at0, rdM_at, rdM_at0, set_at, set_at0, List.length_append, Nat.add_assoc, List.getElem?_cons_succ, List.getElem?_cons_zero, List.set_cons_succ, List.set_cons_zero, Nat.reduceSub, Nat.reduceAdd, Option.map_some, Option.bind_some, Option.some.injEq, exists_eq_left', exists_eq_left, exists_eq', exists_and_left, exists_const, D.int.injEq, D.ref.injEq, D.str.injEq, D.bl.injEq, D.tup.injEq, true_and, and_true, List.length_cons, List.length_nil, atI_lit, ixN_lit, Nat.reduceLT, Nat.reduceLeDiff, Nat.reduceEqDiff, Int.reduceLT, Int.reduceLE, Int.reduceEq, Nat.lt_irrefl, Nat.zero_lt_succ, Nat.reduceMul, Int.reduceNeg, Bool.false_eq_true, if_true, if_false, Nat.zero_add, nlit, eq_self, decide_true, decide_false, reduceIte, Bool.or_false, Bool.false_or, Bool.true_or, Bool.or_true, Bool.and_true, Bool.true_and, Bool.and_false, Bool.false_and, Bool.not_true, Bool.not_false, List.all_cons, List.all_nil, List.any_cons, List.any_nil, c1, c2]
    refine (is_word_ok h2 (x := W.snd) (ys := ["whole", "parts", "filled"]) (by have := ok.snd; simp; exact this)).to fun S2 g2 => ?_
    simp only [wp_cons, wp_nil, wx_asgi, ev_lit, ev_var, ev_gl, ev_tup, ev_lst, ev_bin, ev_neg, ev_cmp, ev_chain, ev_and, ev_or, ev_not, ev_ifx, ev_idx, ev_slc, ev_call, ev_blt, ev_isi, ev_isis, ev_mth, ev_lc, ei_val, ei_rng1, ei_rng2, ei_zip, ei_enum, wx_addL, ev_fmt, ev_fstr, ev_tupRg1, ev_tupRg2, wp_fmtS, wp_fmtI, wp_fstr, wp_tupRg, wx_reverse, wp_neg, wp_rng1, wp_rng2, evEs, ev_asg, ev_ex, ev_ret, ev_retn, ev_iff, ev_for, ev_pass, ev_brk, ev_cont, ev_nope, wp_no, evT, evAnd, evOr, evTA, evTO, evP, evC, wp_bnd, wp_ret, wp_opt, wp_see, wp_add, wp_sub, wx_mul, wx_fdiv, wx_mod, wx_addS, wx_addT, wx_idxT, wx_idxL, wx_int, wx_abs, wx_lenL, wx_lenT, wx_lenS, wx_strI, wx_tupT, wx_tupL, wx_listT, wx_listL, wx_listS, wx_slcT, wx_slcL, wx_append, wx_pop0, wx_joinL, wx_split, wx_find, wp_newL, wp_setL, then_nx, then_rt, then_bk, then_ct, fin_rt, fin_nx, asg_name, asg_tup, asgs_nil, asgs_cons, le_line, lt_line, cop_eq, cop_ne, cop_lt, cop_le, cop_gt, cop_ge, cop_in, cop_notin, cop_is0, cop_is1, cop_is2, cop_is3, cop_is4, cop_is5, eq_int, eq_bl, eq_str, tru_non, tru_bl, tru_int, tru_tup, tru_ref, tn_non, tn_bl, tn_int, tn_str, tn_tup, tn_ref, isTn, mt_append, mt_pop0, mt_pop, mt_reverse, mt_clear, mt_join, mt_split, mt_find, mt_startswith, mt_partition, wk_tup, wk_str, wk_ref,
    rdL_cons0, rdL_ro0, rdL_succ, rdM_cons0, rdM_succ, List.map_cons, List.map_nil, List.replicate_succ, List.replicate_zero, List.cons_append, List.nil_append, List.append_nil, List.append_assoc, rdL_at, rdL_at0, rdM_at, rdM_at0, set_at, set_at0, List.length_append, Nat.add_assoc, List.getElem?_cons_succ, List.getElem?_cons_zero, List.set_cons_succ, List.set_cons_zero, Nat.reduceSub, Nat.reduceAdd, Option.map_some, Option.bind_some, Option.some.injEq, exists_eq_left', exists_eq_left, exists_eq', exists_and_left, exists_const, D.int.injEq, D.ref.injEq, D.str.injEq, D.bl.injEq, D.tup.injEq, true_and, and_true, List.length_cons, List.length_nil, atI_lit, ixN_lit, Nat.reduceLT, Nat.reduceLeDiff, Nat.reduceEqDiff, Int.reduceLT, Int.reduceLE, Int.reduceEq, Nat.lt_irrefl, Nat.zero_lt_succ, Nat.reduceMul, Int.reduceNeg, Bool.false_eq_true, if_true, if_false, Nat.zero_add, nlit, eq_self, decide_true, decide_false, reduceIte, Bool.or_false, Bool.false_or, Bool.true_or, Bool.or_true, Bool.and_true, Bool.true_and, Bool.and_false, Bool.false_and, Bool.not_true, Bool.not_false, List.all_cons, List.all_nil, List.any_cons, List.any_nil]
    refine (is_word_ok h2 (x := W.look) (ys := ["into", "past", "first"]) (by have := ok.look; simp; exact this)).to fun S3 g3 => ?_
    have d3 : decide ((3 : Int) < ((W.kinds.map tupI).length : Nat)) = false := decide_eq_false (by have := ok.kl; simp; omega)
    simp only [wp_cons, wp_nil, wx_asgi, ev_lit, ev_var, ev_gl, ev_tup, ev_lst, ev_bin, ev_neg, ev_cmp, ev_chain, ev_and, ev_or, ev_not, ev_ifx, ev_idx, ev_slc, ev_call, ev_blt, ev_isi, ev_isis, ev_mth, ev_lc, ei_val, ei_rng1, ei_rng2, ei_zip, ei_enum, wx_addL, ev_fmt, ev_fstr, ev_tupRg1, ev_tupRg2, wp_fmtS, wp_fmtI, wp_fstr, wp_tupRg, wx_reverse, wp_neg, wp_rng1, wp_rng2, evEs, ev_asg, ev_ex, ev_ret, ev_retn, ev_iff, ev_for, ev_pass, ev_brk, ev_cont, ev_nope, wp_no, evT, evAnd, evOr, evTA, evTO, evP, evC, wp_bnd, wp_ret, wp_opt, wp_see, wp_add, wp_sub, wx_mul, wx_fdiv, wx_mod, wx_addS, wx_addT, wx_idxT, wx_idxL, wx_int, wx_abs, wx_lenL, wx_lenT, wx_lenS, wx_strI, wx_tupT, wx_tupL, wx_listT, wx_listL, wx_listS, wx_slcT, wx_slcL, wx_append, wx_pop0, wx_joinL, wx_split, wx_find, wp_newL, wp_setL, then_nx, then_rt, then_bk, then_ct, fin_rt, fin_nx, asg_name, asg_tup, asgs_nil, asgs_cons, le_line, lt_line, cop_eq, cop_ne, cop_lt, cop_le, cop_gt, cop_ge, cop_in, cop_notin, cop_is0, cop_is1, cop_is2, cop_is3, cop_is4, cop_is5, eq_int, eq_bl, eq_str, tru_non, tru_bl, tru_int, tru_tup, tru_ref, tn_non, tn_bl, tn_int, tn_str, tn_tup, tn_ref, isTn, mt_append, mt_pop0, mt_pop, mt_reverse, mt_clear, mt_join, mt_split, mt_find, mt_startswith, mt_partition, wk_tup, wk_str, wk_ref,
    rdL_cons0, rdL_ro0, rdL_succ, rdM_cons0, rdM_succ, List.map_cons, List.map_nil, List.replicate_succ, List.replicate_zero, List.cons_append, List.nil_append, List.append_nil, List.append_assoc, rdL_at, rdL_at0, rdM_at, rdM_at0, set_at, set_at0, List.length_append, Nat.add_assoc, List.getElem?_cons_succ, List.getElem?_cons_zero, List.set_cons_succ, List.set_cons_zero, Nat.reduceSub, Nat.reduceAdd, Option.map_some, Option.bind_some, Option.some.injEq, exists_eq_left', exists_eq_left, exists_eq', exists_and_left, exists_const, D.int.injEq, D.ref.injEq, D.str.injEq, D.bl.injEq, D.tup.injEq, true_and, and_true, List.length_cons, List.length_nil, atI_lit, ixN_lit, Nat.reduceLT, Nat.reduceLeDiff, Nat.reduceEqDiff, Int.reduceLT, Int.reduceLE, Int.reduceEq, Nat.lt_irrefl, Nat.zero_lt_succ, Nat.reduceMul, Int.reduceNeg, Bool.false_eq_true, if_true, if_false, Nat.zero_add, nlit, eq_self, decide_true, decide_false, reduceIte, Bool.or_false, Bool.false_or, Bool.true_or, Bool.or_true, Bool.and_true, Bool.true_and, Bool.and_false, Bool.false_and, Bool.not_true, Bool.not_false, List.all_cons, List.all_nil, List.any_cons, List.any_nil, d3]
    obtain ⟨J, hJ⟩ : ∃ I : Nat → Env → Store → Prop, ∀ i ρ S', I i ρ S' ↔ (∃ a1 a2 : Option D, ρ = [some (D.tup [D.int W.w, D.int W.l, D.int W.r, D.str W.snd, D.bl W.eag, D.str W.look, D.tup (List.map tupI W.kinds), tupI W.act]),
        a1, a2, some (D.int W.w), some (D.int W.l), some (D.int W.r), some (D.str W.snd), some (D.bl W.eag), some (D.str W.look), some (D.tup (List.map tupI W.kinds)), some (tupI W.act)] ∧ Gr S S') := ⟨_, fun _ _ _ => Iff.rfl⟩
    refine loop_wp (w := wkItems _) J (fun i ρ S1 hi hh => ?_) (fun ρ S1 hh => ?_) _ 0 _ _ (by simp [wkItems]) ((hJ _ _ _).mpr ⟨_, _, rfl, (g.trans g2).trans g3⟩)
    · obtain ⟨a1, a2, rfl, g4⟩ := (hJ _ _ _).mp hh
      have hi : i < W.kinds.length := by simpa [wkItems] using hi
      refine ⟨tupI W.kinds[i], by simp [wkItems, List.getElem?_eq_getElem hi], ?_⟩
      have hk := ok.kd W.kinds[i] (List.getElem_mem hi)
      rw [wx_stepF]
      simp only [wp_cons, wp_nil, wx_asgi, ev_lit, ev_var, ev_gl, ev_tup, ev_lst, ev_bin, ev_neg, ev_cmp, ev_chain, ev_and, ev_or, ev_not, ev_ifx, ev_idx, ev_slc, ev_call, ev_blt, ev_isi, ev_isis, ev_mth, ev_lc, ei_val, ei_rng1, ei_rng2, ei_zip, ei_enum, wx_addL, ev_fmt, ev_fstr, ev_tupRg1, ev_tupRg2, wp_fmtS, wp_fmtI, wp_fstr, wp_tupRg, wx_reverse, wp_neg, wp_rng1, wp_rng2, evEs, ev_asg, ev_ex, ev_ret, ev_retn, ev_iff, ev_for, ev_pass, ev_brk, ev_cont, ev_nope, wp_no, evT, evAnd, evOr, evTA, evTO, evP, evC, wp_bnd, wp_ret, wp_opt, wp_see, wp_add, wp_sub, wx_mul, wx_fdiv, wx_mod, wx_addS, wx_addT, wx_idxT, wx_idxL, wx_int, wx_abs, wx_lenL, wx_lenT, wx_lenS, wx_strI, wx_tupT, wx_tupL, wx_listT, wx_listL, wx_listS, wx_slcT, wx_slcL, wx_append, wx_pop0, wx_joinL, wx_split, wx_find, wp_newL, wp_setL, then_nx, then_rt, then_bk, then_ct, fin_rt, fin_nx, asg_name, asg_tup, asgs_nil, asgs_cons, le_line, lt_line, cop_eq, cop_ne, cop_lt, cop_le, cop_gt, cop_ge, cop_in, cop_notin, cop_is0, cop_is1, cop_is2, cop_is3, cop_is4, cop_is5, eq_int, eq_bl, eq_str, tru_non, tru_bl, tru_int, tru_tup, tru_ref, tn_non, tn_bl, tn_int, tn_str, tn_tup, tn_ref, isTn, mt_append, mt_pop0, mt_pop, mt_reverse, mt_clear, mt_join, mt_split, mt_find, mt_startswith, mt_partition, wk_tup, wk_str, wk_ref,
    rdL_cons0, rdL_ro0, rdL_succ, rdM_cons0, rdM_succ, List.map_cons, List.map_nil, List.replicate_succ, List.replicate_zero, List.cons_append, List.nil_append, List.append_nil, List.append_assoc, rdL_at, rdL_at0, rdM_at, rdM_at0, set_at, set_at0, List.length_append, Nat.add_assoc, List.getElem?_cons_succ, List.getElem?_cons_zero, List.set_cons_succ, List.set_cons_zero, Nat.reduceSub, Nat.reduceAdd, Option.map_some, Option.bind_some, Option.some.injEq, exists_eq_left', exists_eq_left, exists_eq', exists_and_left, exists_const, D.int.injEq, D.ref.injEq, D.str.injEq, D.bl.injEq, D.tup.injEq, true_and, and_true, List.length_cons, List.length_nil, atI_lit, ixN_lit, Nat.reduceLT, Nat.reduceLeDiff, Nat.reduceEqDiff, Int.reduceLT, Int.reduceLE, Int.reduceEq, Nat.lt_irrefl, Nat.zero_lt_succ, Nat.reduceMul, Int.reduceNeg, Bool.false_eq_true, if_true, if_false, Nat.zero_add, nlit, eq_self, decide_true, decide_false, reduceIte, Bool.or_false, Bool.false_or, Bool.true_or, Bool.or_true, Bool.and_true, Bool.true_and, Bool.and_false, Bool.false_and, Bool.not_true, Bool.not_false, List.all_cons, List.all_nil, List.any_cons, List.any_nil]
      refine (is_ascending_ok h3 h1 hk.1).to fun S5 g5 => ?_
      simp only [wp_cons, wp_nil, wx_asgi, ev_lit, ev_var, ev_gl, ev_tup, ev_lst, ev_bin, ev_neg, ev_cmp, ev_chain, ev_and, ev_or, ev_not, ev_ifx, ev_idx, ev_slc, ev_call, ev_blt, ev_isi, ev_isis, ev_mth, ev_lc, ei_val, ei_rng1, ei_rng2, ei_zip, ei_enum, wx_addL, ev_fmt, ev_fstr, ev_tupRg1, ev_tupRg2, wp_fmtS, wp_fmtI, wp_fstr, wp_tupRg, wx_reverse, wp_neg, wp_rng1, wp_rng2, evEs, ev_asg, ev_ex, ev_ret, ev_retn, ev_iff, ev_for, ev_pass, ev_brk, ev_cont, ev_nope, wp_no, evT, evAnd, evOr, evTA, evTO, evP, evC, wp_bnd, wp_ret, wp_opt, wp_see, wp_add, wp_sub, wx_mul, wx_fdiv, wx_mod, wx_addS, wx_addT, wx_idxT, wx_idxL, wx_int, wx_abs, wx_lenL, wx_lenT, wx_lenS, wx_strI, wx_tupT, wx_tupL, wx_listT, wx_listL, wx_listS, wx_slcT, wx_slcL, wx_append, wx_pop0, wx_joinL, wx_split, wx_find, wp_newL, wp_setL, then_nx, then_rt, then_bk, then_ct, fin_rt, fin_nx, asg_name, asg_tup, asgs_nil, asgs_cons, le_line, lt_line, cop_eq, cop_ne, cop_lt, cop_le, cop_gt, cop_ge, cop_in, cop_notin, cop_is0, cop_is1, cop_is2, cop_is3, cop_is4, cop_is5, eq_int, eq_bl, eq_str, tru_non, tru_bl, tru_int, tru_tup, tru_ref, tn_non, tn_bl, tn_int, tn_str, tn_tup, tn_ref, isTn, mt_append, mt_pop0, mt_pop, mt_reverse, mt_clear, mt_join, mt_split, mt_find, mt_startswith, mt_partition, wk_tup, wk_str, wk_ref,
    rdL_cons0, rdL_ro0, rdL_succ, rdM_cons0, rdM_succ, List.map_cons, List.map_nil, List.replicate_succ, List.replicate_zero, List.cons_append, List.nil_append, List.append_nil, List.append_assoc, rdL_at, rdL_at0, rdM_at, rdM_at0, set_at, set_at0, List.length_append, Nat.add_assoc, List.getElem?_cons_succ, List.getElem?_cons_zero, List.set_cons_succ, List.set_cons_zero, Nat.reduceSub, Nat.reduceAdd, Option.map_some, Option.bind_some, Option.some.injEq, exists_eq_left', exists_eq_left, exists_eq', exists_and_left, exists_const, D.int.injEq, D.ref.injEq, D.str.injEq, D.bl.injEq, D.tup.injEq, true_and, and_true, List.length_cons, List.length_nil, atI_lit, ixN_lit, Nat.reduceLT, Nat.reduceLeDiff, Nat.reduceEqDiff, Int.reduceLT, Int.reduceLE, Int.reduceEq, Nat.lt_irrefl, Nat.zero_lt_succ, Nat.reduceMul, Int.reduceNeg, Bool.false_eq_true, if_true, if_false, Nat.zero_add, nlit, eq_self, decide_true, decide_false, reduceIte, Bool.or_false, Bool.false_or, Bool.true_or, Bool.or_true, Bool.and_true, Bool.true_and, Bool.and_false, Bool.false_and, Bool.not_true, Bool.not_false, List.all_cons, List.all_nil, List.any_cons, List.any_nil, eq_tupI_nil hk.2]
      exact (hJ _ _ _).mpr ⟨_, _, rfl, g4.trans g5⟩
    · obtain ⟨a1, a2, rfl, g4⟩ := (hJ _ _ _).mp hh
      refine ⟨rfl, ?_⟩
      simp only [wp_cons, wp_nil, wx_asgi, ev_lit, ev_var, ev_gl, ev_tup, ev_lst, ev_bin, ev_neg, ev_cmp, ev_chain, ev_and, ev_or, ev_not, ev_ifx, ev_idx, ev_slc, ev_call, ev_blt, ev_isi, ev_isis, ev_mth, ev_lc, ei_val, ei_rng1, ei_rng2, ei_zip, ei_enum, wx_addL, ev_fmt, ev_fstr, ev_tupRg1, ev_tupRg2, wp_fmtS, wp_fmtI, wp_fstr, wp_tupRg, wx_reverse, wp_neg, wp_rng1, wp_rng2, evEs, ev_asg, ev_ex, ev_ret, ev_retn, ev_iff, ev_for, ev_pass, ev_brk, ev_cont, ev_nope, wp_no, evT, evAnd, evOr, evTA, evTO, evP, evC, wp_bnd, wp_ret, wp_opt, wp_see, wp_add, wp_sub, wx_mul, wx_fdiv, wx_mod, wx_addS, wx_addT, wx_idxT, wx_idxL, wx_int, wx_abs, wx_lenL, wx_lenT, wx_lenS, wx_strI, wx_tupT, wx_tupL, wx_listT, wx_listL, wx_listS, wx_slcT, wx_slcL, wx_append, wx_pop0, wx_joinL, wx_split, wx_find, wp_newL, wp_setL, then_nx, then_rt, then_bk, then_ct, fin_rt, fin_nx, asg_name, asg_tup, asgs_nil, asgs_cons, le_line, lt_line, cop_eq, cop_ne, cop_lt, cop_le, cop_gt, cop_ge, cop_in, cop_notin, cop_is0, cop_is1, cop_is2, cop_is3, cop_is4, cop_is5, eq_int, eq_bl, eq_str, tru_non, tru_bl, tru_int, tru_tup, tru_ref, tn_non, tn_bl, tn_int, tn_str, tn_tup, tn_ref, isTn, mt_append, mt_pop0, mt_pop, mt_reverse, mt_clear, mt_join, mt_split, mt_find, mt_startswith, mt_partition, wk_tup, wk_str, wk_ref,
    rdL_cons0, rdL_ro0, rdL_succ, rdM_cons0, rdM_succ, List.map_cons, List.map_nil, List.replicate_succ, List.replicate_zero, List.cons_append, List.nil_append, List.append_nil, List.append_assoc, rdL_at, rdL_at0, rdM_at, rdM_at0, set_at, set_at0, List.length_append, Nat.add_assoc, List.getElem?_cons_succ, List.getElem?_cons_zero, List.set_cons_succ, List.set_cons_zero, Nat.reduceSub, Nat.reduceAdd, Option.map_some, Option.bind_some, Option.some.injEq, exists_eq_left', exists_eq_left, exists_eq', exists_and_left, exists_const, D.int.injEq, D.ref.injEq, D.str.injEq, D.bl.injEq, D.tup.injEq, true_and, and_true, List.length_cons, List.length_nil, atI_lit, ixN_lit, Nat.reduceLT, Nat.reduceLeDiff, Nat.reduceEqDiff, Int.reduceLT, Int.reduceLE, Int.reduceEq, Nat.lt_irrefl, Nat.zero_lt_succ, Nat.reduceMul, Int.reduceNeg, Bool.false_eq_true, if_true, if_false, Nat.zero_add, nlit, eq_self, decide_true, decide_false, reduceIte, Bool.or_false, Bool.false_or, Bool.true_or, Bool.or_true, Bool.and_true, Bool.true_and, Bool.and_false, Bool.false_and, Bool.not_true, Bool.not_false, List.all_cons, List.all_nil, List.any_cons, List.any_nil]
      refine ⟨lgs (by have := ok.w; omega) (by have := ok.w; omega) (by have := ok.l; omega) (by have := ok.l; omega), ?_⟩
      refine (is_ascending_ok h3 h1 ok.act).to fun S5 g5 => ?_
      have d4 : decide (((W.act.map D.int).length : Nat) ≤ (2 : Int)) = true := decide_eq_true (by have := ok.al; simp; omega)
      simp only [wp_cons, wp_nil, wx_asgi, ev_lit, ev_var, ev_gl, ev_tup, ev_lst, ev_bin, ev_neg, ev_cmp, ev_chain, ev_and, ev_or, ev_not, ev_ifx, ev_idx, ev_slc, ev_call, ev_blt, ev_isi, ev_isis, ev_mth, ev_lc, ei_val, ei_rng1, ei_rng2, ei_zip, ei_enum, wx_addL, ev_fmt, ev_fstr, ev_tupRg1, ev_tupRg2, wp_fmtS, wp_fmtI, wp_fstr, wp_tupRg, wx_reverse, wp_neg, wp_rng1, wp_rng2, evEs, ev_asg, ev_ex, ev_ret, ev_retn, ev_iff, ev_for, ev_pass, ev_brk, ev_cont, ev_nope, wp_no, evT, evAnd, evOr, evTA, evTO, evP, evC, wp_bnd, wp_ret, wp_opt, wp_see, wp_add, wp_sub, wx_mul, wx_fdiv, wx_mod, wx_addS, wx_addT, wx_idxT, wx_idxL, wx_int, wx_abs, wx_lenL, wx_lenT, wx_lenS, wx_strI, wx_tupT, wx_tupL, wx_listT, wx_listL, wx_listS, wx_slcT, wx_slcL, wx_append, wx_pop0, wx_joinL, wx_split, wx_find, wp_newL, wp_setL, then_nx, then_rt, then_bk, then_ct, fin_rt, fin_nx, asg_name, asg_tup, asgs_nil, asgs_cons, le_line, lt_line, cop_eq, cop_ne, cop_lt, cop_le, cop_gt, cop_ge, cop_in, cop_notin, cop_is0, cop_is1, cop_is2, cop_is3, cop_is4, cop_is5, eq_int, eq_bl, eq_str, tru_non, tru_bl, tru_int, tru_tup, tru_ref, tn_non, tn_bl, tn_int, tn_str, tn_tup, tn_ref, isTn, mt_append, mt_pop0, mt_pop, mt_reverse, mt_clear, mt_join, mt_split, mt_find, mt_startswith, mt_partition, wk_tup, wk_str, wk_ref,
    rdL_cons0, rdL_ro0, rdL_succ, rdM_cons0, rdM_succ, List.map_cons, List.map_nil, List.replicate_succ, List.replicate_zero, List.cons_append, List.nil_append, List.append_nil, List.append_assoc, rdL_at, rdL_at0, rdM_at, rdM_at0, set_at, set_at0, List.length_append, Nat.add_assoc, List.getElem?_cons_succ, List.getElem?_cons_zero, List.set_cons_succ, List.set_cons_zero, Nat.reduceSub, Nat.reduceAdd, Option.map_some, Option.bind_some, Option.some.injEq, exists_eq_left', exists_eq_left, exists_eq', exists_and_left, exists_const, D.int.injEq, D.ref.injEq, D.str.injEq, D.bl.injEq, D.tup.injEq, true_and, and_true, List.length_cons, List.length_nil, atI_lit, ixN_lit, Nat.reduceLT, Nat.reduceLeDiff, Nat.reduceEqDiff, Int.reduceLT, Int.reduceLE, Int.reduceEq, Nat.lt_irrefl, Nat.zero_lt_succ, Nat.reduceMul, Int.reduceNeg, Bool.false_eq_true, if_true, if_false, Nat.zero_add, nlit, eq_self, decide_true, decide_false, reduceIte, Bool.or_false, Bool.false_or, Bool.true_or, Bool.or_true, Bool.and_true, Bool.true_and, Bool.and_false, Bool.false_and, Bool.not_true, Bool.not_false, List.all_cons, List.all_nil, List.any_cons, List.any_nil, tupI, d4]
      exact g4.trans g5
theorem need_rule_ok (h0 : FD ds Lib.df_need_rule) (h : FD ds Lib.df_is_rule) (h1 : FD ds Lib.df_is_integer) (h2 : FD ds Lib.df_is_word) (h3 : FD ds Lib.df_is_ascending) (c1 : con "SENDS" = some sendsD) (c2 : con "LOOKS" = some looksD) {W : Wy} (ok : W.Ok) :
    Pu (callD ds con fuel (k + 4) "need_rule" [W.d]) S .non := by
  refine pu_call h0 rfl rfl ?_
  simp only [Lib.df_need_rule, Lib.b_need_rule]
  simp only [wp_cons, wp_nil, wx_asgi, ev_lit, ev_var, ev_gl, ev_tup, ev_lst, ev_bin, ev_neg, ev_cmp, ev_chain, ev_and, ev_or, ev_not, ev_ifx, ev_idx, ev_slc, ev_call, ev_blt, ev_isi, ev_isis, ev_mth, ev_lc, ei_val, ei_rng1, ei_rng2, ei_zip, ei_enum, wx_addL, ev_fmt, ev_fstr, ev_tupRg1, ev_tupRg2, wp_fmtS, wp_fmtI, wp_fstr, wp_tupRg, wx_reverse, wp_neg, wp_rng1, wp_rng2, evEs, ev_asg, ev_ex, ev_ret, ev_retn, ev_iff, ev_for, ev_pass, ev_brk, ev_cont, ev_nope, wp_no, evT, evAnd, evOr, evTA, evTO, evP, evC, wp_bnd, wp_ret, wp_opt, wp_see, wp_add, wp_sub, wx_mul, wx_fdiv, wx_mod, wx_addS, wx_addT, wx_idxT, wx_idxL, wx_int, wx_abs, wx_lenL, wx_lenT, wx_lenS, wx_strI, wx_tupT, wx_tupL, wx_listT, wx_listL, wx_listS, wx_slcT, wx_slcL, wx_append, wx_pop0, wx_joinL, wx_split, wx_find, wp_newL, wp_setL, then_nx, then_rt, then_bk, then_ct, fin_rt, fin_nx, asg_name, asg_tup, asgs_nil, asgs_cons, le_line, lt_line, cop_eq, cop_ne, cop_lt, cop_le, cop_gt, cop_ge, cop_in, cop_notin, cop_is0, cop_is1, cop_is2, cop_is3, cop_is4, cop_is5, eq_int, eq_bl, eq_str, tru_non, tru_bl, tru_int, tru_tup, tru_ref, tn_non, tn_bl, tn_int, tn_str, tn_tup, tn_ref, isTn, mt_append, mt_pop0, mt_pop, mt_reverse, mt_clear, mt_join, mt_split, mt_find, mt_startswith, mt_partition, wk_tup, wk_str, wk_ref,
    rdL_cons0, rdL_ro0, rdL_succ, rdM_cons0, rdM_succ, List.map_cons, List.map_nil, List.replicate_succ, List.replicate_zero, List.cons_append, List.nil_append, List.append_nil, List.append_assoc, rdL_at, rdL_at0, rdM_at, rdM_at0, set_at, set_at0, List.length_append, Nat.add_assoc, List.getElem?_cons_succ, List.getElem?_cons_zero, List.set_cons_succ, List.set_cons_zero, Nat.reduceSub, Nat.reduceAdd, Option.map_some, Option.bind_some, Option.some.injEq, exists_eq_left', exists_eq_left, exists_eq', exists_and_left, exists_const, D.int.injEq, D.ref.injEq, D.str.injEq, D.bl.injEq, D.tup.injEq, true_and, and_true, List.length_cons, List.length_nil, atI_lit, ixN_lit, Nat.reduceLT, Nat.reduceLeDiff, Nat.reduceEqDiff, Int.reduceLT, Int.reduceLE, Int.reduceEq, Nat.lt_irrefl, Nat.zero_lt_succ, Nat.reduceMul, Int.reduceNeg, Bool.false_eq_true, if_true, if_false, Nat.zero_add, nlit, eq_self, decide_true, decide_false, reduceIte, Bool.or_false, Bool.false_or, Bool.true_or, Bool.or_true, Bool.and_true, Bool.true_and, Bool.and_false, Bool.false_and, Bool.not_true, Bool.not_false, List.all_cons, List.all_nil, List.any_cons, List.any_nil]
  refine (is_rule_ok h h1 h2 h3 c1 c2 ok).to fun S1 g => ?_
  simp only [wp_cons, wp_nil, wx_asgi, ev_lit, ev_var, ev_gl, ev_tup, ev_lst, ev_bin, ev_neg, ev_cmp, ev_chain, ev_and, ev_or, ev_not, ev_ifx, ev_idx, ev_slc, ev_call, ev_blt, ev_isi, ev_isis, ev_mth, ev_lc, ei_val, ei_rng1, ei_rng2, ei_zip, ei_enum, wx_addL, ev_fmt, ev_fstr, ev_tupRg1, ev_tupRg2, wp_fmtS, wp_fmtI, wp_fstr, wp_tupRg, wx_reverse, wp_neg, wp_rng1, wp_rng2, evEs, ev_asg, ev_ex, ev_ret, ev_retn, ev_iff, ev_for, ev_pass, ev_brk, ev_cont, ev_nope, wp_no, evT, evAnd, evOr, evTA, evTO, evP, evC, wp_bnd, wp_ret, wp_opt, wp_see, wp_add, wp_sub, wx_mul, wx_fdiv, wx_mod, wx_addS, wx_addT, wx_idxT, wx_idxL, wx_int, wx_abs, wx_lenL, wx_lenT, wx_lenS, wx_strI, wx_tupT, wx_tupL, wx_listT, wx_listL, wx_listS, wx_slcT, wx_slcL, wx_append, wx_pop0, wx_joinL, wx_split, wx_find, wp_newL, wp_setL, then_nx, then_rt, then_bk, then_ct, fin_rt, fin_nx, asg_name, asg_tup, asgs_nil, asgs_cons, le_line, lt_line, cop_eq, cop_ne, cop_lt, cop_le, cop_gt, cop_ge, cop_in, cop_notin, cop_is0, cop_is1, cop_is2, cop_is3, cop_is4, cop_is5, eq_int, eq_bl, eq_str, tru_non, tru_bl, tru_int, tru_tup, tru_ref, tn_non, tn_bl, tn_int, tn_str, tn_tup, tn_ref, isTn, mt_append, mt_pop0, mt_pop, mt_reverse, mt_clear, mt_join, mt_split, mt_find, mt_startswith, mt_partition, wk_tup, wk_str, wk_ref,
    rdL_cons0, rdL_ro0, rdL_succ, rdM_cons0, rdM_succ, List.map_cons, List.map_nil, List.replicate_succ, List.replicate_zero, List.cons_append, List.nil_append, List.append_nil, List.append_assoc, rdL_at, rdL_at0, rdM_at, rdM_at0, set_at, set_at0, List.length_append, Nat.add_assoc, List.getElem?_cons_succ, List.getElem?_cons_zero, List.set_cons_succ, List.set_cons_zero, Nat.reduceSub, Nat.reduceAdd, Option.map_some, Option.bind_some, Option.some.injEq, exists_eq_left', exists_eq_left, exists_eq', exists_and_left, exists_const, D.int.injEq, D.ref.injEq, D.str.injEq, D.bl.injEq, D.tup.injEq, true_and, and_true, List.length_cons, List.length_nil, atI_lit, ixN_lit, Nat.reduceLT, Nat.reduceLeDiff, Nat.reduceEqDiff, Int.reduceLT, Int.reduceLE, Int.reduceEq, Nat.lt_irrefl, Nat.zero_lt_succ, Nat.reduceMul, Int.reduceNeg, Bool.false_eq_true, if_true, if_false, Nat.zero_add, nlit, eq_self, decide_true, decide_false, reduceIte, Bool.or_false, Bool.false_or, Bool.true_or, Bool.or_true, Bool.and_true, Bool.true_and, Bool.and_false, Bool.false_and, Bool.not_true, Bool.not_false, List.all_cons, List.all_nil, List.any_cons, List.any_nil]
  exact g
end
end My

/-! A rule's text. -/
namespace My
open PySem PySem.Spec PyProof.Rows L2
theorem joinL_le (S : List Nat) : ∀ ps : List (List Nat), (TL.joinL S ps).length ≤ (ps.map List.length).sum + ps.length * S.length
  | [] => by simp [TL.joinL]
  | [p] => by simp [TL.joinL]
  | p :: q :: r => by
    have := joinL_le S (q :: r)
    simp only [TL.joinL, List.length_append, List.map_cons, List.sum_cons, List.length_cons] at this ⊢
    have e : (r.length + 1 + 1) * S.length = (r.length + 1) * S.length + S.length := Nat.succ_mul _ _
    omega
theorem join_len_le (y : Str) (ps : List Str) : (Str.join y ps).length ≤ (ps.map (·.length)).sum + ps.length * y.length := by
  rw [TL.len_tl, TL.tl_join, TL.len_tl y]
  have := joinL_le (TL.tl y) (ps.map TL.tl)
  have e : (ps.map TL.tl).map List.length = ps.map (·.length) := by
    rw [List.map_map]; exact List.map_congr_left fun x _ => (TL.len_tl x).symm
  rw [e, List.length_map] at this
  exact this
theorem sum_le {b : Nat} : ∀ {l : List Nat}, (∀ x ∈ l, x ≤ b) → l.sum ≤ l.length * b
  | [], _ => by simp
  | x :: l, h => by
    have h1 := h x List.mem_cons_self
    have h2 := sum_le (l := l) fun y hy => h y (List.mem_cons_of_mem _ hy)
    simp only [List.sum_cons, List.length_cons, Nat.succ_mul]
    omega
theorem joinL_ne {S p : List Nat} {ps : List (List Nat)} (h : p ≠ []) : TL.joinL S (p :: ps) ≠ [] := by
  cases ps with
  | nil => exact h
  | cons q r =>
    simp only [TL.joinL]
    intro z
    exact h (List.append_eq_nil_iff.mp z).1
theorem commas_len {xs : List Int} (h : Sm10 xs) : (commas xs).length ≤ 2 * xs.length + 1 := by
  unfold commas
  by_cases hx : xs = []
  · rw [if_pos hx]; exact Nat.le_trans (by decide +kernel : (Str.ofString "-").length ≤ 1) (by omega)
  · rw [if_neg hx]
    have := join_len_le "," (xs.map dig)
    rw [sum_dig h, List.length_map] at this
    have e : (Str.ofString ",").length = 1 := by decide +kernel
    rw [e] at this
    omega
theorem glued_len {xs : List Int} (h : Sm10 xs) : (glued xs).length ≤ xs.length := by
  unfold glued
  have := join_len_le "" (xs.map dig)
  rw [sum_dig h, List.length_map] at this
  have e : (Str.ofString "").length = 0 := by decide +kernel
  rw [e] at this
  omega
def kindsText (ks : List (List Int)) : Str := if ks = [] then "-" else Str.join "," (ks.map glued)
def wordsOf (W : Wy) : List Str := [dig W.w, dig W.l, dig W.r, W.snd, if W.eag then "eager" else "free", W.look, kindsText W.kinds, commas W.act]
def textOf (W : Wy) : Str := Str.join " " (wordsOf W)
theorem Asc.sm {m : Int} {xs : List Int} (h : Asc m xs) (hm : m ≤ 10) : Sm10 xs := fun x hx => by have := h.2 x hx; omega
section
variable {W : Wy}
theorem Wy.Ok.wl (ok : W.Ok) : 1 ≤ W.w * W.l ∧ W.w * W.l ≤ 9 := by
  have h1 := ok.w
  have h2 := ok.l
  refine ⟨?_, ?_⟩
  · have : 1 * 1 ≤ W.w * W.l := Int.mul_le_mul h1.1 h2.1 (by omega) (by omega)
    omega
  · have : W.w * W.l ≤ 3 * 3 := Int.mul_le_mul h1.2 h2.2 (by omega) (by omega)
    omega
theorem Wy.Ok.act10 (ok : W.Ok) : Sm10 W.act := ok.act.sm (by have := ok.wl; omega)
theorem Wy.Ok.kd10 (ok : W.Ok) : ∀ k ∈ W.kinds, Sm10 k ∧ k.length ≤ 3 := fun k hk => ⟨(ok.kd k hk).1.sm (by have := ok.l; omega), by
  have := (ok.kd k hk).1.len
  have := ok.l
  omega⟩
theorem kinds_sum (ok : W.Ok) : ((W.kinds.map glued).map (·.length)).sum ≤ 9 := by
  have := sum_le (b := 3) (l := (W.kinds.map glued).map (·.length)) fun x hx => by
    rw [List.map_map] at hx
    obtain ⟨k, hk, rfl⟩ := List.mem_map.mp hx
    obtain ⟨h1, h2⟩ := ok.kd10 k hk
    exact Nat.le_trans (glued_len h1) h2
  simp only [List.length_map] at this
  have := ok.kl
  omega
theorem kinds_len (ok : W.Ok) : (kindsText W.kinds).length ≤ 12 := by
  unfold kindsText
  by_cases hx : W.kinds = []
  · rw [if_pos hx]; decide +kernel
  · rw [if_neg hx]
    have := join_len_le "," (W.kinds.map glued)
    have e : (Str.ofString ",").length = 1 := by decide +kernel
    rw [e, List.length_map] at this
    have := kinds_sum ok
    have := ok.kl
    omega
theorem words_len (ok : W.Ok) : ∀ x ∈ wordsOf W, x.length ≤ 12 := by
  have e1 := ok.snd
  have e2 := ok.look
  intro x hx
  simp only [wordsOf, List.mem_cons, List.not_mem_nil, or_false] at hx
  rcases hx with rfl | rfl | rfl | rfl | rfl | rfl | rfl | rfl
  · rw [len_dig (by have := ok.w; omega)]; omega
  · rw [len_dig (by have := ok.l; omega)]; omega
  · rw [len_dig (by have := ok.r; omega)]; omega
  · rcases e1 with e | e | e <;> (rw [e]; decide +kernel)
  · cases W.eag <;> decide +kernel
  · rcases e2 with e | e | e <;> (rw [e]; decide +kernel)
  · exact kinds_len ok
  · have := commas_len ok.act10
    have := ok.al
    omega
theorem text_len (ok : W.Ok) : (textOf W).length ≤ 200 := by
  have h1 := join_len_le " " (wordsOf W)
  have h2 := sum_le (b := 12) (l := (wordsOf W).map (·.length)) fun x hx => by
    obtain ⟨y, hy, rfl⟩ := List.mem_map.mp hx
    exact words_len ok y hy
  have e : (Str.ofString " ").length = 1 := by decide +kernel
  rw [e] at h1
  have e2 : (wordsOf W).length = 8 := rfl
  rw [List.length_map, e2] at h2
  rw [e2] at h1
  unfold textOf
  omega
theorem words_join (ok : W.Ok) : ((wordsOf W).map (·.length)).sum + (wordsOf W).length * (Str.ofString " ").length ≤ 16777216 := by
  have h2 := sum_le (b := 12) (l := (wordsOf W).map (·.length)) fun x hx => by
    obtain ⟨y, hy, rfl⟩ := List.mem_map.mp hx
    exact words_len ok y hy
  have e : (Str.ofString " ").length = 1 := by decide +kernel
  have e2 : (wordsOf W).length = 8 := rfl
  rw [List.length_map, e2] at h2
  rw [e, e2]
  omega
end
section
variable {ds : List Df} {con : Str → Option D} {fuel k : Nat} {S : Store}
theorem joined_digits_ok (h : FD ds Lib.df_joined_digits) {xs : List Int} (hx : Sm10 xs) (hl : xs.length ≤ 1000) : Pu (callD ds con fuel (k + 1) "joined_digits" [tupI xs]) S (.str (glued xs)) := by
  refine pu_call h rfl rfl ?_
  simp only [Lib.df_joined_digits, Lib.b_joined_digits, tupI]
  simp only [wp_cons, wp_nil, wx_asgi, ev_lit, ev_var, ev_gl, ev_tup, ev_lst, ev_bin, ev_neg, ev_cmp, ev_chain, ev_and, ev_or, ev_not, ev_ifx, ev_idx, ev_slc, ev_call, ev_blt, ev_isi, ev_isis, ev_mth, ev_lc, ei_val, ei_rng1, ei_rng2, ei_zip, ei_enum, wx_addL, ev_fmt, ev_fstr, ev_tupRg1, ev_tupRg2, wp_fmtS, wp_fmtI, wp_fstr, wp_tupRg, wx_reverse, wp_neg, wp_rng1, wp_rng2, evEs, ev_asg, ev_ex, ev_ret, ev_retn, ev_iff, ev_for, ev_pass, ev_brk, ev_cont, ev_nope, wp_no, evT, evAnd, evOr, evTA, evTO, evP, evC, wp_bnd, wp_ret, wp_opt, wp_see, wp_add, wp_sub, wx_mul, wx_fdiv, wx_mod, wx_addS, wx_addT, wx_idxT, wx_idxL, wx_int, wx_abs, wx_lenL, wx_lenT, wx_lenS, wx_strI, wx_tupT, wx_tupL, wx_listT, wx_listL, wx_listS, wx_slcT, wx_slcL, wx_append, wx_pop0, wx_joinL, wx_split, wx_find, wp_newL, wp_setL, then_nx, then_rt, then_bk, then_ct, fin_rt, fin_nx, asg_name, asg_tup, asgs_nil, asgs_cons, le_line, lt_line, cop_eq, cop_ne, cop_lt, cop_le, cop_gt, cop_ge, cop_in, cop_notin, cop_is0, cop_is1, cop_is2, cop_is3, cop_is4, cop_is5, eq_int, eq_bl, eq_str, tru_non, tru_bl, tru_int, tru_tup, tru_ref, tn_non, tn_bl, tn_int, tn_str, tn_tup, tn_ref, isTn, mt_append, mt_pop0, mt_pop, mt_reverse, mt_clear, mt_join, mt_split, mt_find, mt_startswith, mt_partition, wk_tup, wk_str, wk_ref,
    rdL_cons0, rdL_ro0, rdL_succ, rdM_cons0, rdM_succ, List.map_cons, List.map_nil, List.replicate_succ, List.replicate_zero, List.cons_append, List.nil_append, List.append_nil, List.append_assoc, rdL_at, rdL_at0, rdM_at, rdM_at0, set_at, set_at0, List.length_append, Nat.add_assoc, List.getElem?_cons_succ, List.getElem?_cons_zero, List.set_cons_succ, List.set_cons_zero, Nat.reduceSub, Nat.reduceAdd, Option.map_some, Option.bind_some, Option.some.injEq, exists_eq_left', exists_eq_left, exists_eq', exists_and_left, exists_const, D.int.injEq, D.ref.injEq, D.str.injEq, D.bl.injEq, D.tup.injEq, true_and, and_true, List.length_cons, List.length_nil, atI_lit, ixN_lit, Nat.reduceLT, Nat.reduceLeDiff, Nat.reduceEqDiff, Int.reduceLT, Int.reduceLE, Int.reduceEq, Nat.lt_irrefl, Nat.zero_lt_succ, Nat.reduceMul, Int.reduceNeg, Bool.false_eq_true, if_true, if_false, Nat.zero_add, nlit, eq_self, decide_true, decide_false, reduceIte, Bool.or_false, Bool.false_or, Bool.true_or, Bool.or_true, Bool.and_true, Bool.true_and, Bool.and_false, Bool.false_and, Bool.not_true, Bool.not_false, List.all_cons, List.all_nil, List.any_cons, List.any_nil]
  refine comp_str (by simp) hx hl fun S1 g => ?_
  simp only [wp_cons, wp_nil, wx_asgi, ev_lit, ev_var, ev_gl, ev_tup, ev_lst, ev_bin, ev_neg, ev_cmp, ev_chain, ev_and, ev_or, ev_not, ev_ifx, ev_idx, ev_slc, ev_call, ev_blt, ev_isi, ev_isis, ev_mth, ev_lc, ei_val, ei_rng1, ei_rng2, ei_zip, ei_enum, wx_addL, ev_fmt, ev_fstr, ev_tupRg1, ev_tupRg2, wp_fmtS, wp_fmtI, wp_fstr, wp_tupRg, wx_reverse, wp_neg, wp_rng1, wp_rng2, evEs, ev_asg, ev_ex, ev_ret, ev_retn, ev_iff, ev_for, ev_pass, ev_brk, ev_cont, ev_nope, wp_no, evT, evAnd, evOr, evTA, evTO, evP, evC, wp_bnd, wp_ret, wp_opt, wp_see, wp_add, wp_sub, wx_mul, wx_fdiv, wx_mod, wx_addS, wx_addT, wx_idxT, wx_idxL, wx_int, wx_abs, wx_lenL, wx_lenT, wx_lenS, wx_strI, wx_tupT, wx_tupL, wx_listT, wx_listL, wx_listS, wx_slcT, wx_slcL, wx_append, wx_pop0, wx_joinL, wx_split, wx_find, wp_newL, wp_setL, then_nx, then_rt, then_bk, then_ct, fin_rt, fin_nx, asg_name, asg_tup, asgs_nil, asgs_cons, le_line, lt_line, cop_eq, cop_ne, cop_lt, cop_le, cop_gt, cop_ge, cop_in, cop_notin, cop_is0, cop_is1, cop_is2, cop_is3, cop_is4, cop_is5, eq_int, eq_bl, eq_str, tru_non, tru_bl, tru_int, tru_tup, tru_ref, tn_non, tn_bl, tn_int, tn_str, tn_tup, tn_ref, isTn, mt_append, mt_pop0, mt_pop, mt_reverse, mt_clear, mt_join, mt_split, mt_find, mt_startswith, mt_partition, wk_tup, wk_str, wk_ref,
    rdL_cons0, rdL_ro0, rdL_succ, rdM_cons0, rdM_succ, List.map_cons, List.map_nil, List.replicate_succ, List.replicate_zero, List.cons_append, List.nil_append, List.append_nil, List.append_assoc, rdL_at, rdL_at0, rdM_at, rdM_at0, set_at, set_at0, List.length_append, Nat.add_assoc, List.getElem?_cons_succ, List.getElem?_cons_zero, List.set_cons_succ, List.set_cons_zero, Nat.reduceSub, Nat.reduceAdd, Option.map_some, Option.bind_some, Option.some.injEq, exists_eq_left', exists_eq_left, exists_eq', exists_and_left, exists_const, D.int.injEq, D.ref.injEq, D.str.injEq, D.bl.injEq, D.tup.injEq, true_and, and_true, List.length_cons, List.length_nil, atI_lit, ixN_lit, Nat.reduceLT, Nat.reduceLeDiff, Nat.reduceEqDiff, Int.reduceLT, Int.reduceLE, Int.reduceEq, Nat.lt_irrefl, Nat.zero_lt_succ, Nat.reduceMul, Int.reduceNeg, Bool.false_eq_true, if_true, if_false, Nat.zero_add, nlit, eq_self, decide_true, decide_false, reduceIte, Bool.or_false, Bool.false_or, Bool.true_or, Bool.or_true, Bool.and_true, Bool.true_and, Bool.and_false, Bool.false_and, Bool.not_true, Bool.not_false, List.all_cons, List.all_nil, List.any_cons, List.any_nil]
  exact ⟨_, strsOf_map (xs.map dig), join_le hx hl (by decide +kernel), rfl, g.one _⟩
theorem show_numbers_ok (h : FD ds Lib.df_show_numbers) {xs : List Int} (hx : Sm10 xs) (hl : xs.length ≤ 1000) : Pu (callD ds con fuel (k + 1) "show_numbers" [tupI xs]) S (.str (commas xs)) := by
  refine pu_call h rfl rfl ?_
  simp only [Lib.df_show_numbers, Lib.b_show_numbers, tupI]
  simp only [wp_cons, wp_nil, wx_asgi, ev_lit, ev_var, ev_gl, ev_tup, ev_lst, ev_bin, ev_neg, ev_cmp, ev_chain, ev_and, ev_or, ev_not, ev_ifx, ev_idx, ev_slc, ev_call, ev_blt, ev_isi, ev_isis, ev_mth, ev_lc, ei_val, ei_rng1, ei_rng2, ei_zip, ei_enum, wx_addL, ev_fmt, ev_fstr, ev_tupRg1, ev_tupRg2, wp_fmtS, wp_fmtI, wp_fstr, wp_tupRg, wx_reverse, wp_neg, wp_rng1, wp_rng2, evEs, ev_asg, ev_ex, ev_ret, ev_retn, ev_iff, ev_for, ev_pass, ev_brk, ev_cont, ev_nope, wp_no, evT, evAnd, evOr, evTA, evTO, evP, evC, wp_bnd, wp_ret, wp_opt, wp_see, wp_add, wp_sub, wx_mul, wx_fdiv, wx_mod, wx_addS, wx_addT, wx_idxT, wx_idxL, wx_int, wx_abs, wx_lenL, wx_lenT, wx_lenS, wx_strI, wx_tupT, wx_tupL, wx_listT, wx_listL, wx_listS, wx_slcT, wx_slcL, wx_append, wx_pop0, wx_joinL, wx_split, wx_find, wp_newL, wp_setL, then_nx, then_rt, then_bk, then_ct, fin_rt, fin_nx, asg_name, asg_tup, asgs_nil, asgs_cons, le_line, lt_line, cop_eq, cop_ne, cop_lt, cop_le, cop_gt, cop_ge, cop_in, cop_notin, cop_is0, cop_is1, cop_is2, cop_is3, cop_is4, cop_is5, eq_int, eq_bl, eq_str, tru_non, tru_bl, tru_int, tru_tup, tru_ref, tn_non, tn_bl, tn_int, tn_str, tn_tup, tn_ref, isTn, mt_append, mt_pop0, mt_pop, mt_reverse, mt_clear, mt_join, mt_split, mt_find, mt_startswith, mt_partition, wk_tup, wk_str, wk_ref,
    rdL_cons0, rdL_ro0, rdL_succ, rdM_cons0, rdM_succ, List.map_cons, List.map_nil, List.replicate_succ, List.replicate_zero, List.cons_append, List.nil_append, List.append_nil, List.append_assoc, rdL_at, rdL_at0, rdM_at, rdM_at0, set_at, set_at0, List.length_append, Nat.add_assoc, List.getElem?_cons_succ, List.getElem?_cons_zero, List.set_cons_succ, List.set_cons_zero, Nat.reduceSub, Nat.reduceAdd, Option.map_some, Option.bind_some, Option.some.injEq, exists_eq_left', exists_eq_left, exists_eq', exists_and_left, exists_const, D.int.injEq, D.ref.injEq, D.str.injEq, D.bl.injEq, D.tup.injEq, true_and, and_true, List.length_cons, List.length_nil, atI_lit, ixN_lit, Nat.reduceLT, Nat.reduceLeDiff, Nat.reduceEqDiff, Int.reduceLT, Int.reduceLE, Int.reduceEq, Nat.lt_irrefl, Nat.zero_lt_succ, Nat.reduceMul, Int.reduceNeg, Bool.false_eq_true, if_true, if_false, Nat.zero_add, nlit, eq_self, decide_true, decide_false, reduceIte, Bool.or_false, Bool.false_or, Bool.true_or, Bool.or_true, Bool.and_true, Bool.true_and, Bool.and_false, Bool.false_and, Bool.not_true, Bool.not_false, List.all_cons, List.all_nil, List.any_cons, List.any_nil]
  refine comp_str (by simp) hx hl fun S1 g => ?_
  have hj := join_len_le "," (xs.map dig)
  have e : (Str.ofString ",").length = 1 := by decide +kernel
  rw [sum_dig hx, List.length_map, e] at hj
  have hsz : (Str.join "," (xs.map dig)).length ≤ sizeLine := Nat.le_trans hj (Nat.le_trans (by omega : _ ≤ 3000) (by decide))
  simp only [wp_cons, wp_nil, wx_asgi, ev_lit, ev_var, ev_gl, ev_tup, ev_lst, ev_bin, ev_neg, ev_cmp, ev_chain, ev_and, ev_or, ev_not, ev_ifx, ev_idx, ev_slc, ev_call, ev_blt, ev_isi, ev_isis, ev_mth, ev_lc, ei_val, ei_rng1, ei_rng2, ei_zip, ei_enum, wx_addL, ev_fmt, ev_fstr, ev_tupRg1, ev_tupRg2, wp_fmtS, wp_fmtI, wp_fstr, wp_tupRg, wx_reverse, wp_neg, wp_rng1, wp_rng2, evEs, ev_asg, ev_ex, ev_ret, ev_retn, ev_iff, ev_for, ev_pass, ev_brk, ev_cont, ev_nope, wp_no, evT, evAnd, evOr, evTA, evTO, evP, evC, wp_bnd, wp_ret, wp_opt, wp_see, wp_add, wp_sub, wx_mul, wx_fdiv, wx_mod, wx_addS, wx_addT, wx_idxT, wx_idxL, wx_int, wx_abs, wx_lenL, wx_lenT, wx_lenS, wx_strI, wx_tupT, wx_tupL, wx_listT, wx_listL, wx_listS, wx_slcT, wx_slcL, wx_append, wx_pop0, wx_joinL, wx_split, wx_find, wp_newL, wp_setL, then_nx, then_rt, then_bk, then_ct, fin_rt, fin_nx, asg_name, asg_tup, asgs_nil, asgs_cons, le_line, lt_line, cop_eq, cop_ne, cop_lt, cop_le, cop_gt, cop_ge, cop_in, cop_notin, cop_is0, cop_is1, cop_is2, cop_is3, cop_is4, cop_is5, eq_int, eq_bl, eq_str, tru_non, tru_bl, tru_int, tru_tup, tru_ref, tn_non, tn_bl, tn_int, tn_str, tn_tup, tn_ref, isTn, mt_append, mt_pop0, mt_pop, mt_reverse, mt_clear, mt_join, mt_split, mt_find, mt_startswith, mt_partition, wk_tup, wk_str, wk_ref,
    rdL_cons0, rdL_ro0, rdL_succ, rdM_cons0, rdM_succ, List.map_cons, List.map_nil, List.replicate_succ, List.replicate_zero, List.cons_append, List.nil_append, List.append_nil, List.append_assoc, rdL_at, rdL_at0, rdM_at, rdM_at0, set_at, set_at0, List.length_append, Nat.add_assoc, List.getElem?_cons_succ, List.getElem?_cons_zero, List.set_cons_succ, List.set_cons_zero, Nat.reduceSub, Nat.reduceAdd, Option.map_some, Option.bind_some, Option.some.injEq, exists_eq_left', exists_eq_left, exists_eq', exists_and_left, exists_const, D.int.injEq, D.ref.injEq, D.str.injEq, D.bl.injEq, D.tup.injEq, true_and, and_true, List.length_cons, List.length_nil, atI_lit, ixN_lit, Nat.reduceLT, Nat.reduceLeDiff, Nat.reduceEqDiff, Int.reduceLT, Int.reduceLE, Int.reduceEq, Nat.lt_irrefl, Nat.zero_lt_succ, Nat.reduceMul, Int.reduceNeg, Bool.false_eq_true, if_true, if_false, Nat.zero_add, nlit, eq_self, decide_true, decide_false, reduceIte, Bool.or_false, Bool.false_or, Bool.true_or, Bool.or_true, Bool.and_true, Bool.true_and, Bool.and_false, Bool.false_and, Bool.not_true, Bool.not_false, List.all_cons, List.all_nil, List.any_cons, List.any_nil]
  refine ⟨_, strsOf_map (xs.map dig), join_le hx hl (by decide +kernel), ?_⟩
  have hb : ((Str.join "," (xs.map dig)).length != 0) = !xs.isEmpty := by
    cases xs with
    | nil => decide +kernel
    | cons x xs =>
      have e1 : (Str.join "," ((x :: xs).map dig)).length ≠ 0 := by
        rw [TL.len_tl, TL.tl_join]
        have : TL.joinL (TL.tl ",") (((x :: xs).map dig).map TL.tl) ≠ [] := by
          simp only [List.map_cons]
          refine joinL_ne ?_
          rw [tl_dig (hx x List.mem_cons_self)]; simp
        simpa using this
      simpa using e1
  rw [tru_str hsz, hb]
  cases xs with
  | nil =>
    simp only [wp_cons, wp_nil, wx_asgi, ev_lit, ev_var, ev_gl, ev_tup, ev_lst, ev_bin, ev_neg, ev_cmp, ev_chain, ev_and, ev_or, ev_not, ev_ifx, ev_idx, ev_slc, ev_call, ev_blt, ev_isi, ev_isis, ev_mth, ev_lc, ei_val, ei_rng1, ei_rng2, ei_zip, ei_enum, wx_addL, ev_fmt, ev_fstr, ev_tupRg1, ev_tupRg2, wp_fmtS, wp_fmtI, wp_fstr, wp_tupRg, wx_reverse, wp_neg, wp_rng1, wp_rng2, evEs, ev_asg, ev_ex, ev_ret, ev_retn, ev_iff, ev_for, ev_pass, ev_brk, ev_cont, ev_nope, wp_no, evT, evAnd, evOr, evTA, evTO, evP, evC, wp_bnd, wp_ret, wp_opt, wp_see, wp_add, wp_sub, wx_mul, wx_fdiv, wx_mod, wx_addS, wx_addT, wx_idxT, wx_idxL, wx_int, wx_abs, wx_lenL, wx_lenT, wx_lenS, wx_strI, wx_tupT, wx_tupL, wx_listT, wx_listL, wx_listS, wx_slcT, wx_slcL, wx_append, wx_pop0, wx_joinL, wx_split, wx_find, wp_newL, wp_setL, then_nx, then_rt, then_bk, then_ct, fin_rt, fin_nx, asg_name, asg_tup, asgs_nil, asgs_cons, le_line, lt_line, cop_eq, cop_ne, cop_lt, cop_le, cop_gt, cop_ge, cop_in, cop_notin, cop_is0, cop_is1, cop_is2, cop_is3, cop_is4, cop_is5, eq_int, eq_bl, eq_str, tru_non, tru_bl, tru_int, tru_tup, tru_ref, tn_non, tn_bl, tn_int, tn_str, tn_tup, tn_ref, isTn, mt_append, mt_pop0, mt_pop, mt_reverse, mt_clear, mt_join, mt_split, mt_find, mt_startswith, mt_partition, wk_tup, wk_str, wk_ref,
    rdL_cons0, rdL_ro0, rdL_succ, rdM_cons0, rdM_succ, List.map_cons, List.map_nil, List.replicate_succ, List.replicate_zero, List.cons_append, List.nil_append, List.append_nil, List.append_assoc, rdL_at, rdL_at0, rdM_at, rdM_at0, set_at, set_at0, List.length_append, Nat.add_assoc, List.getElem?_cons_succ, List.getElem?_cons_zero, List.set_cons_succ, List.set_cons_zero, Nat.reduceSub, Nat.reduceAdd, Option.map_some, Option.bind_some, Option.some.injEq, exists_eq_left', exists_eq_left, exists_eq', exists_and_left, exists_const, D.int.injEq, D.ref.injEq, D.str.injEq, D.bl.injEq, D.tup.injEq, true_and, and_true, List.length_cons, List.length_nil, atI_lit, ixN_lit, Nat.reduceLT, Nat.reduceLeDiff, Nat.reduceEqDiff, Int.reduceLT, Int.reduceLE, Int.reduceEq, Nat.lt_irrefl, Nat.zero_lt_succ, Nat.reduceMul, Int.reduceNeg, Bool.false_eq_true, if_true, if_false, Nat.zero_add, nlit, eq_self, decide_true, decide_false, reduceIte, Bool.or_false, Bool.false_or, Bool.true_or, Bool.or_true, Bool.and_true, Bool.true_and, Bool.and_false, Bool.false_and, Bool.not_true, Bool.not_false, List.all_cons, List.all_nil, List.any_cons, List.any_nil, List.isEmpty_nil]
    exact ⟨rfl, g.one _⟩
  | cons x xs =>
    simp only [wp_cons, wp_nil, wx_asgi, ev_lit, ev_var, ev_gl, ev_tup, ev_lst, ev_bin, ev_neg, ev_cmp, ev_chain, ev_and, ev_or, ev_not, ev_ifx, ev_idx, ev_slc, ev_call, ev_blt, ev_isi, ev_isis, ev_mth, ev_lc, ei_val, ei_rng1, ei_rng2, ei_zip, ei_enum, wx_addL, ev_fmt, ev_fstr, ev_tupRg1, ev_tupRg2, wp_fmtS, wp_fmtI, wp_fstr, wp_tupRg, wx_reverse, wp_neg, wp_rng1, wp_rng2, evEs, ev_asg, ev_ex, ev_ret, ev_retn, ev_iff, ev_for, ev_pass, ev_brk, ev_cont, ev_nope, wp_no, evT, evAnd, evOr, evTA, evTO, evP, evC, wp_bnd, wp_ret, wp_opt, wp_see, wp_add, wp_sub, wx_mul, wx_fdiv, wx_mod, wx_addS, wx_addT, wx_idxT, wx_idxL, wx_int, wx_abs, wx_lenL, wx_lenT, wx_lenS, wx_strI, wx_tupT, wx_tupL, wx_listT, wx_listL, wx_listS, wx_slcT, wx_slcL, wx_append, wx_pop0, wx_joinL, wx_split, wx_find, wp_newL, wp_setL, then_nx, then_rt, then_bk, then_ct, fin_rt, fin_nx, asg_name, asg_tup, asgs_nil, asgs_cons, le_line, lt_line, cop_eq, cop_ne, cop_lt, cop_le, cop_gt, cop_ge, cop_in, cop_notin, cop_is0, cop_is1, cop_is2, cop_is3, cop_is4, cop_is5, eq_int, eq_bl, eq_str, tru_non, tru_bl, tru_int, tru_tup, tru_ref, tn_non, tn_bl, tn_int, tn_str, tn_tup, tn_ref, isTn, mt_append, mt_pop0, mt_pop, mt_reverse, mt_clear, mt_join, mt_split, mt_find, mt_startswith, mt_partition, wk_tup, wk_str, wk_ref,
    rdL_cons0, rdL_ro0, rdL_succ, rdM_cons0, rdM_succ, List.map_cons, List.map_nil, List.replicate_succ, List.replicate_zero, List.cons_append, List.nil_append, List.append_nil, List.append_assoc, rdL_at, rdL_at0, rdM_at, rdM_at0, set_at, set_at0, List.length_append, Nat.add_assoc, List.getElem?_cons_succ, List.getElem?_cons_zero, List.set_cons_succ, List.set_cons_zero, Nat.reduceSub, Nat.reduceAdd, Option.map_some, Option.bind_some, Option.some.injEq, exists_eq_left', exists_eq_left, exists_eq', exists_and_left, exists_const, D.int.injEq, D.ref.injEq, D.str.injEq, D.bl.injEq, D.tup.injEq, true_and, and_true, List.length_cons, List.length_nil, atI_lit, ixN_lit, Nat.reduceLT, Nat.reduceLeDiff, Nat.reduceEqDiff, Int.reduceLT, Int.reduceLE, Int.reduceEq, Nat.lt_irrefl, Nat.zero_lt_succ, Nat.reduceMul, Int.reduceNeg, Bool.false_eq_true, if_true, if_false, Nat.zero_add, nlit, eq_self, decide_true, decide_false, reduceIte, Bool.or_false, Bool.false_or, Bool.true_or, Bool.or_true, Bool.and_true, Bool.true_and, Bool.and_false, Bool.false_and, Bool.not_true, Bool.not_false, List.all_cons, List.all_nil, List.any_cons, List.any_nil, List.isEmpty_cons]
    exact ⟨rfl, g.one _⟩
end
end My

/-! A rule's text, by the law and by the program. -/
namespace My
open PySem PySem.Spec PyProof.Rows L2
def gluD (d : D) : D := match d with
  | .tup xs => .str (Str.join "" (xs.map fun x => match x with
    | .int i => dig i
    | _ => ""))
  | d => d
theorem gluD_tupI (k : List Int) : gluD (tupI k) = .str (glued k) := by
  simp only [tupI, gluD, glued, List.map_map]
  rfl
theorem map_gluD (ks : List (List Int)) : (ks.map tupI).map gluD = (ks.map glued).map .str := by
  simp only [List.map_map]
  exact List.map_congr_left fun k _ => gluD_tupI k
theorem Gr.ex {S S1 : Store} {o : Ob} (h : Gr (S ++ [o]) S1) : ∃ X, S1 = S ++ o :: X := by
  obtain ⟨X, rfl⟩ := h
  exact ⟨X, by simp⟩
theorem Gr.ap {S S1 : Store} (h : Gr S S1) (X : Store) : Gr S (S1 ++ X) := h.trans (.app X)
section
variable {ds : List Df} {con : Str → Option D} {fuel k : Nat} {S : Store} {W : Wy}
theorem comp_glu {f : Str} {nm : Str} {ρ : Env} {v : Nat} (hf : ∀ xs S, Sm10 xs → xs.length ≤ 1000 → Pu (callD ds con fuel (k + 1) f [tupI xs]) S (.str (glued xs))) (hv : v < ρ.length) (ok : W.Ok) {Q : D → Store → Prop}
    (q : ∀ S1, Gr S S1 → Q (.ref S1.length) (S1 ++ [.lst ((W.kinds.map glued).map .str)])) :
    Wp (compF (wkItems (W.kinds.map tupI)) (itemF ⟨callD ds con fuel (k + 1), con, fuel⟩ (.call f (.cons (.var v) .nil)) (.name v) .nil [(nm, v)] ρ) (wkItems (W.kinds.map tupI)).n 0 []) S Q := by
  refine comp_items (g := gluD) (xs := W.kinds.map tupI) (by have := ok.kl; simp; exact Nat.le_trans this (by decide)) (fun x hx S1 => ?_) fun S1 g => by rw [map_gluD]; exact q S1 g
  obtain ⟨kd, hk, rfl⟩ := List.mem_map.mp hx
  have ev : ((ρ.set v none).set v (some (tupI kd)))[v]? = some (some (tupI kd)) := by
    rw [List.getElem?_set_self (by simpa using hv)]
  rw [wx_itemF]
  simp only [wp_cons, wp_nil, wx_asgi, ev_lit, ev_var, ev_gl, ev_tup, ev_lst, ev_bin, ev_neg, ev_cmp, ev_chain, ev_and, ev_or, ev_not, ev_ifx, ev_idx, ev_slc, ev_call, ev_blt, ev_isi, ev_isis, ev_mth, ev_lc, ei_val, ei_rng1, ei_rng2, ei_zip, ei_enum, wx_addL, ev_fmt, ev_fstr, ev_tupRg1, ev_tupRg2, wp_fmtS, wp_fmtI, wp_fstr, wp_tupRg, wx_reverse, wp_neg, wp_rng1, wp_rng2, evEs, ev_asg, ev_ex, ev_ret, ev_retn, ev_iff, ev_for, ev_pass, ev_brk, ev_cont, ev_nope, wp_no, evT, evAnd, evOr, evTA, evTO, evP, evC, wp_bnd, wp_ret, wp_opt, wp_see, wp_add, wp_sub, wx_mul, wx_fdiv, wx_mod, wx_addS, wx_addT, wx_idxT, wx_idxL, wx_int, wx_abs, wx_lenL, wx_lenT, wx_lenS, wx_strI, wx_tupT, wx_tupL, wx_listT, wx_listL, wx_listS, wx_slcT, wx_slcL, wx_append, wx_pop0, wx_joinL, wx_split, wx_find, wp_newL, wp_setL, then_nx, then_rt, then_bk, then_ct, fin_rt, fin_nx, asg_name, asg_tup, asgs_nil, asgs_cons, le_line, lt_line, cop_eq, cop_ne, cop_lt, cop_le, cop_gt, cop_ge, cop_in, cop_notin, cop_is0, cop_is1, cop_is2, cop_is3, cop_is4, cop_is5, eq_int, eq_bl, eq_str, tru_non, tru_bl, tru_int, tru_tup, tru_ref, tn_non, tn_bl, tn_int, tn_str, tn_tup, tn_ref, isTn, mt_append, mt_pop0, mt_pop, mt_reverse, mt_clear, mt_join, mt_split, mt_find, mt_startswith, mt_partition, wk_tup, wk_str, wk_ref,
    rdL_cons0, rdL_ro0, rdL_succ, rdM_cons0, rdM_succ, List.map_cons, List.map_nil, List.replicate_succ, List.replicate_zero, List.cons_append, List.nil_append, List.append_nil, List.append_assoc, rdL_at, rdL_at0, rdM_at, rdM_at0, set_at, set_at0, List.length_append, Nat.add_assoc, List.getElem?_cons_succ, List.getElem?_cons_zero, List.set_cons_succ, List.set_cons_zero, Nat.reduceSub, Nat.reduceAdd, Option.map_some, Option.bind_some, Option.some.injEq, exists_eq_left', exists_eq_left, exists_eq', exists_and_left, exists_const, D.int.injEq, D.ref.injEq, D.str.injEq, D.bl.injEq, D.tup.injEq, true_and, and_true, List.length_cons, List.length_nil, atI_lit, ixN_lit, Nat.reduceLT, Nat.reduceLeDiff, Nat.reduceEqDiff, Int.reduceLT, Int.reduceLE, Int.reduceEq, Nat.lt_irrefl, Nat.zero_lt_succ, Nat.reduceMul, Int.reduceNeg, Bool.false_eq_true, if_true, if_false, Nat.zero_add, nlit, eq_self, decide_true, decide_false, reduceIte, Bool.or_false, Bool.false_or, Bool.true_or, Bool.or_true, Bool.and_true, Bool.true_and, Bool.and_false, Bool.false_and, Bool.not_true, Bool.not_false, List.all_cons, List.all_nil, List.any_cons, List.any_nil, wipeD, ev]
  refine ⟨fun _ => ?_, fun z => by cases z⟩
  obtain ⟨h1, h2⟩ := ok.kd10 kd hk
  refine (hf kd S1 h1 (by omega)).to fun S2 g2 => ?_
  exact ⟨by rw [gluD_tupI], g2⟩
theorem glu_join (ok : W.Ok) : ((W.kinds.map glued).map (·.length)).sum + (W.kinds.map glued).length * (Str.ofString ",").length ≤ 16777216 := by
  have := kinds_sum ok
  have := ok.kl
  have e : (Str.ofString ",").length = 1 := by decide +kernel
  rw [e, List.length_map]
  omega
theorem ways_text_ok (h : FD ds Lib.df__law_ways_text) (h1 : FD ds Lib.df__law_commas) (h2 : FD ds Lib.df__law_glued) (ok : W.Ok) : Pu (callD ds con fuel (k + 2) "_law_ways_text" [W.d]) S (.str (textOf W)) := by
  refine pu_call h rfl rfl ?_
  simp only [Lib.df__law_ways_text, Lib.b__law_ways_text, Wy.d]
  simp only [wp_cons, wp_nil, wx_asgi, ev_lit, ev_var, ev_gl, ev_tup, ev_lst, ev_bin, ev_neg, ev_cmp, ev_chain, ev_and, ev_or, ev_not, ev_ifx, ev_idx, ev_slc, ev_call, ev_blt, ev_isi, ev_isis, ev_mth, ev_lc, ei_val, ei_rng1, ei_rng2, ei_zip, ei_enum, wx_addL, ev_fmt, ev_fstr, ev_tupRg1, ev_tupRg2, wp_fmtS, wp_fmtI, wp_fstr, wp_tupRg, wx_reverse, wp_neg, wp_rng1, wp_rng2, evEs, ev_asg, ev_ex, ev_ret, ev_retn, ev_iff, ev_for, ev_pass, ev_brk, ev_cont, ev_nope, wp_no, evT, evAnd, evOr, evTA, evTO, evP, evC, wp_bnd, wp_ret, wp_opt, wp_see, wp_add, wp_sub, wx_mul, wx_fdiv, wx_mod, wx_addS, wx_addT, wx_idxT, wx_idxL, wx_int, wx_abs, wx_lenL, wx_lenT, wx_lenS, wx_strI, wx_tupT, wx_tupL, wx_listT, wx_listL, wx_listS, wx_slcT, wx_slcL, wx_append, wx_pop0, wx_joinL, wx_split, wx_find, wp_newL, wp_setL, then_nx, then_rt, then_bk, then_ct, fin_rt, fin_nx, asg_name, asg_tup, asgs_nil, asgs_cons, le_line, lt_line, cop_eq, cop_ne, cop_lt, cop_le, cop_gt, cop_ge, cop_in, cop_notin, cop_is0, cop_is1, cop_is2, cop_is3, cop_is4, cop_is5, eq_int, eq_bl, eq_str, tru_non, tru_bl, tru_int, tru_tup, tru_ref, tn_non, tn_bl, tn_int, tn_str, tn_tup, tn_ref, isTn, mt_append, mt_pop0, mt_pop, mt_reverse, mt_clear, mt_join, mt_split, mt_find, mt_startswith, mt_partition, wk_tup, wk_str, wk_ref,
    rdL_cons0, rdL_ro0, rdL_succ, rdM_cons0, rdM_succ, List.map_cons, List.map_nil, List.replicate_succ, List.replicate_zero, List.cons_append, List.nil_append, List.append_nil, List.append_assoc, rdL_at, rdL_at0, rdM_at, rdM_at0, set_at, set_at0, List.length_append, Nat.add_assoc, List.getElem?_cons_succ, List.getElem?_cons_zero, List.set_cons_succ, List.set_cons_zero, Nat.reduceSub, Nat.reduceAdd, Option.map_some, Option.bind_some, Option.some.injEq, exists_eq_left', exists_eq_left, exists_eq', exists_and_left, exists_const, D.int.injEq, D.ref.injEq, D.str.injEq, D.bl.injEq, D.tup.injEq, true_and, and_true, List.length_cons, List.length_nil, atI_lit, ixN_lit, Nat.reduceLT, Nat.reduceLeDiff, Nat.reduceEqDiff, Int.reduceLT, Int.reduceLE, Int.reduceEq, Nat.lt_irrefl, Nat.zero_lt_succ, Nat.reduceMul, Int.reduceNeg, Bool.false_eq_true, if_true, if_false, Nat.zero_add, nlit, eq_self, decide_true, decide_false, reduceIte, Bool.or_false, Bool.false_or, Bool.true_or, Bool.or_true, Bool.and_true, Bool.true_and, Bool.and_false, Bool.false_and, Bool.not_true, Bool.not_false, List.all_cons, List.all_nil, List.any_cons, List.any_nil]
  refine ⟨log_dig (by have := ok.w; omega), log_dig (by have := ok.l; omega), log_dig (by have := ok.r; omega), ?_⟩
  refine (commas_ok h1 ok.act10 (by have := ok.al; omega)).to fun S1 g1 => ?_
  try simp only [wp_cons, wp_nil, wx_asgi, ev_lit, ev_var, ev_gl, ev_tup, ev_lst, ev_bin, ev_neg, ev_cmp, ev_chain, ev_and, ev_or, ev_not, ev_ifx, ev_idx, ev_slc, ev_call, ev_blt, ev_isi, ev_isis, ev_mth, ev_lc, ei_val, ei_rng1, ei_rng2, ei_zip, ei_enum, wx_addL, ev_fmt, ev_fstr, ev_tupRg1, ev_tupRg2, wp_fmtS, wp_fmtI, wp_fstr, wp_tupRg, wx_reverse, wp_neg, wp_rng1, wp_rng2, evEs, ev_asg, ev_ex, ev_ret, ev_retn, ev_iff, ev_for, ev_pass, ev_brk, ev_cont, ev_nope, wp_no, evT, evAnd, evOr, evTA, evTO, evP, evC, wp_bnd, wp_ret, wp_opt, wp_see, wp_add, wp_sub, wx_mul, wx_fdiv, wx_mod, wx_addS, wx_addT, wx_idxT, wx_idxL, wx_int, wx_abs, wx_lenL, wx_lenT, wx_lenS, wx_strI, wx_tupT, wx_tupL, wx_listT, wx_listL, wx_listS, wx_slcT, wx_slcL, wx_append, wx_pop0, wx_joinL, wx_split, wx_find, wp_newL, wp_setL, then_nx, then_rt, then_bk, then_ct, fin_rt, fin_nx, asg_name, asg_tup, asgs_nil, asgs_cons, le_line, lt_line, cop_eq, cop_ne, cop_lt, cop_le, cop_gt, cop_ge, cop_in, cop_notin, cop_is0, cop_is1, cop_is2, cop_is3, cop_is4, cop_is5, eq_int, eq_bl, eq_str, tru_non, tru_bl, tru_int, tru_tup, tru_ref, tn_non, tn_bl, tn_int, tn_str, tn_tup, tn_ref, isTn, mt_append, mt_pop0, mt_pop, mt_reverse, mt_clear, mt_join, mt_split, mt_find, mt_startswith, mt_partition, wk_tup, wk_str, wk_ref,
    rdL_cons0, rdL_ro0, rdL_succ, rdM_cons0, rdM_succ, List.map_cons, List.map_nil, List.replicate_succ, List.replicate_zero, List.cons_append, List.nil_append, List.append_nil, List.append_assoc, rdL_at, rdL_at0, rdM_at, rdM_at0, set_at, set_at0, List.length_append, Nat.add_assoc, List.getElem?_cons_succ, List.getElem?_cons_zero, List.set_cons_succ, List.set_cons_zero, Nat.reduceSub, Nat.reduceAdd, Option.map_some, Option.bind_some, Option.some.injEq, exists_eq_left', exists_eq_left, exists_eq', exists_and_left, exists_const, D.int.injEq, D.ref.injEq, D.str.injEq, D.bl.injEq, D.tup.injEq, true_and, and_true, List.length_cons, List.length_nil, atI_lit, ixN_lit, Nat.reduceLT, Nat.reduceLeDiff, Nat.reduceEqDiff, Int.reduceLT, Int.reduceLE, Int.reduceEq, Nat.lt_irrefl, Nat.zero_lt_succ, Nat.reduceMul, Int.reduceNeg, Bool.false_eq_true, if_true, if_false, Nat.zero_add, nlit, eq_self, decide_true, decide_false, reduceIte, Bool.or_false, Bool.false_or, Bool.true_or, Bool.or_true, Bool.and_true, Bool.true_and, Bool.and_false, Bool.false_and, Bool.not_true, Bool.not_false, List.all_cons, List.all_nil, List.any_cons, List.any_nil]
  have tail : ∀ (ea : Str) (he : ea = if W.eag then ("eager" : Str) else ("free" : Str)), Wp (evSs ⟨callD ds con fuel (k + 1), con, fuel⟩ (.cons (.iff (.idx (.var 0) (.lit (.int 6))) (.cons (.asgi (.var 1) (.lit (.int 6)) (.mth (.lit (.str ",")) .join (.cons (.lc (.call "_law_glued" (.cons (.var 2) .nil)) (.name 2) (.val (.idx (.var 0) (.lit (.int 6)))) .nil [("kind", 2)]) .nil)))
 .nil) .nil)
 (.cons (.ret (.mth (.lit (.str " ")) .join (.cons (.var 1) .nil)))
 .nil)) [some (.tup [.int W.w, .int W.l, .int W.r, .str W.snd, .bl W.eag, .str W.look, .tup (W.kinds.map tupI), tupI W.act]), some (.ref S1.length), none])
      (S1 ++ [.lst [.str (Str.ofString (toString W.w)), .str (Str.ofString (toString W.l)), .str (Str.ofString (toString W.r)), .str W.snd, .str ea, .str W.look, .str "-", .str (commas W.act)]]) (Fin fun a S' => a = .str (textOf W) ∧ Gr S S') := by
    intro ea he
    simp only [wp_cons, wp_nil, wx_asgi, ev_lit, ev_var, ev_gl, ev_tup, ev_lst, ev_bin, ev_neg, ev_cmp, ev_chain, ev_and, ev_or, ev_not, ev_ifx, ev_idx, ev_slc, ev_call, ev_blt, ev_isi, ev_isis, ev_mth, ev_lc, ei_val, ei_rng1, ei_rng2, ei_zip, ei_enum, wx_addL, ev_fmt, ev_fstr, ev_tupRg1, ev_tupRg2, wp_fmtS, wp_fmtI, wp_fstr, wp_tupRg, wx_reverse, wp_neg, wp_rng1, wp_rng2, evEs, ev_asg, ev_ex, ev_ret, ev_retn, ev_iff, ev_for, ev_pass, ev_brk, ev_cont, ev_nope, wp_no, evT, evAnd, evOr, evTA, evTO, evP, evC, wp_bnd, wp_ret, wp_opt, wp_see, wp_add, wp_sub, wx_mul, wx_fdiv, wx_mod, wx_addS, wx_addT, wx_idxT, wx_idxL, wx_int, wx_abs, wx_lenL, wx_lenT, wx_lenS, wx_strI, wx_tupT, wx_tupL, wx_listT, wx_listL, wx_listS, wx_slcT, wx_slcL, wx_append, wx_pop0, wx_joinL, wx_split, wx_find, wp_newL, wp_setL, then_nx, then_rt, then_bk, then_ct, fin_rt, fin_nx, asg_name, asg_tup, asgs_nil, asgs_cons, le_line, lt_line, cop_eq, cop_ne, cop_lt, cop_le, cop_gt, cop_ge, cop_in, cop_notin, cop_is0, cop_is1, cop_is2, cop_is3, cop_is4, cop_is5, eq_int, eq_bl, eq_str, tru_non, tru_bl, tru_int, tru_tup, tru_ref, tn_non, tn_bl, tn_int, tn_str, tn_tup, tn_ref, isTn, mt_append, mt_pop0, mt_pop, mt_reverse, mt_clear, mt_join, mt_split, mt_find, mt_startswith, mt_partition, wk_tup, wk_str, wk_ref,
    rdL_cons0, rdL_ro0, rdL_succ, rdM_cons0, rdM_succ, List.map_cons, List.map_nil, List.replicate_succ, List.replicate_zero, List.cons_append, List.nil_append, List.append_nil, List.append_assoc, rdL_at, rdL_at0, rdM_at, rdM_at0, set_at, set_at0, List.length_append, Nat.add_assoc, List.getElem?_cons_succ, List.getElem?_cons_zero, List.set_cons_succ, List.set_cons_zero, Nat.reduceSub, Nat.reduceAdd, Option.map_some, Option.bind_some, Option.some.injEq, exists_eq_left', exists_eq_left, exists_eq', exists_and_left, exists_const, D.int.injEq, D.ref.injEq, D.str.injEq, D.bl.injEq, D.tup.injEq, true_and, and_true, List.length_cons, List.length_nil, atI_lit, ixN_lit, Nat.reduceLT, Nat.reduceLeDiff, Nat.reduceEqDiff, Int.reduceLT, Int.reduceLE, Int.reduceEq, Nat.lt_irrefl, Nat.zero_lt_succ, Nat.reduceMul, Int.reduceNeg, Bool.false_eq_true, if_true, if_false, Nat.zero_add, nlit, eq_self, decide_true, decide_false, reduceIte, Bool.or_false, Bool.false_or, Bool.true_or, Bool.or_true, Bool.and_true, Bool.true_and, Bool.and_false, Bool.false_and, Bool.not_true, Bool.not_false, List.all_cons, List.all_nil, List.any_cons, List.any_nil]
    cases hk : W.kinds with
    | nil =>
      simp only [wp_cons, wp_nil, wx_asgi, ev_lit, ev_var, ev_gl, ev_tup, ev_lst, ev_bin, ev_neg, ev_cmp, ev_chain, ev_and, ev_or, ev_not, ev_ifx, ev_idx, ev_slc, ev_call, ev_blt, ev_isi, ev_isis, ev_mth, ev_lc, ei_val, ei_rng1, ei_rng2, ei_zip, ei_enum, wx_addL, ev_fmt, ev_fstr, ev_tupRg1, ev_tupRg2, wp_fmtS, wp_fmtI, wp_fstr, wp_tupRg, wx_reverse, wp_neg, wp_rng1, wp_rng2, evEs, ev_asg, ev_ex, ev_ret, ev_retn, ev_iff, ev_for, ev_pass, ev_brk, ev_cont, ev_nope, wp_no, evT, evAnd, evOr, evTA, evTO, evP, evC, wp_bnd, wp_ret, wp_opt, wp_see, wp_add, wp_sub, wx_mul, wx_fdiv, wx_mod, wx_addS, wx_addT, wx_idxT, wx_idxL, wx_int, wx_abs, wx_lenL, wx_lenT, wx_lenS, wx_strI, wx_tupT, wx_tupL, wx_listT, wx_listL, wx_listS, wx_slcT, wx_slcL, wx_append, wx_pop0, wx_joinL, wx_split, wx_find, wp_newL, wp_setL, then_nx, then_rt, then_bk, then_ct, fin_rt, fin_nx, asg_name, asg_tup, asgs_nil, asgs_cons, le_line, lt_line, cop_eq, cop_ne, cop_lt, cop_le, cop_gt, cop_ge, cop_in, cop_notin, cop_is0, cop_is1, cop_is2, cop_is3, cop_is4, cop_is5, eq_int, eq_bl, eq_str, tru_non, tru_bl, tru_int, tru_tup, tru_ref, tn_non, tn_bl, tn_int, tn_str, tn_tup, tn_ref, isTn, mt_append, mt_pop0, mt_pop, mt_reverse, mt_clear, mt_join, mt_split, mt_find, mt_startswith, mt_partition, wk_tup, wk_str, wk_ref,
    rdL_cons0, rdL_ro0, rdL_succ, rdM_cons0, rdM_succ, List.map_cons, List.map_nil, List.replicate_succ, List.replicate_zero, List.cons_append, List.nil_append, List.append_nil, List.append_assoc, rdL_at, rdL_at0, rdM_at, rdM_at0, set_at, set_at0, List.length_append, Nat.add_assoc, List.getElem?_cons_succ, List.getElem?_cons_zero, List.set_cons_succ, List.set_cons_zero, Nat.reduceSub, Nat.reduceAdd, Option.map_some, Option.bind_some, Option.some.injEq, exists_eq_left', exists_eq_left, exists_eq', exists_and_left, exists_const, D.int.injEq, D.ref.injEq, D.str.injEq, D.bl.injEq, D.tup.injEq, true_and, and_true, List.length_cons, List.length_nil, atI_lit, ixN_lit, Nat.reduceLT, Nat.reduceLeDiff, Nat.reduceEqDiff, Int.reduceLT, Int.reduceLE, Int.reduceEq, Nat.lt_irrefl, Nat.zero_lt_succ, Nat.reduceMul, Int.reduceNeg, Bool.false_eq_true, if_true, if_false, Nat.zero_add, nlit, eq_self, decide_true, decide_false, reduceIte, Bool.or_false, Bool.false_or, Bool.true_or, Bool.or_true, Bool.and_true, Bool.true_and, Bool.and_false, Bool.false_and, Bool.not_true, Bool.not_false, List.all_cons, List.all_nil, List.any_cons, List.any_nil, List.isEmpty_nil]
      have e : wordsOf W = [Str.ofString (toString W.w), Str.ofString (toString W.l), Str.ofString (toString W.r), W.snd, ea, W.look, "-", commas W.act] := by
        simp only [wordsOf, hk, he]; rfl
      refine ⟨wordsOf W, by rw [e]; exact strsOf_map [_, _, _, _, _, _, _, _], words_join ok, rfl, g1.one _⟩
    | cons kd ks =>
      simp only [wp_cons, wp_nil, wx_asgi, ev_lit, ev_var, ev_gl, ev_tup, ev_lst, ev_bin, ev_neg, ev_cmp, ev_chain, ev_and, ev_or, ev_not, ev_ifx, ev_idx, ev_slc, ev_call, ev_blt, ev_isi, ev_isis, ev_mth, ev_lc, ei_val, ei_rng1, ei_rng2, ei_zip, ei_enum, wx_addL, ev_fmt, ev_fstr, ev_tupRg1, ev_tupRg2, wp_fmtS, wp_fmtI, wp_fstr, wp_tupRg, wx_reverse, wp_neg, wp_rng1, wp_rng2, evEs, ev_asg, ev_ex, ev_ret, ev_retn, ev_iff, ev_for, ev_pass, ev_brk, ev_cont, ev_nope, wp_no, evT, evAnd, evOr, evTA, evTO, evP, evC, wp_bnd, wp_ret, wp_opt, wp_see, wp_add, wp_sub, wx_mul, wx_fdiv, wx_mod, wx_addS, wx_addT, wx_idxT, wx_idxL, wx_int, wx_abs, wx_lenL, wx_lenT, wx_lenS, wx_strI, wx_tupT, wx_tupL, wx_listT, wx_listL, wx_listS, wx_slcT, wx_slcL, wx_append, wx_pop0, wx_joinL, wx_split, wx_find, wp_newL, wp_setL, then_nx, then_rt, then_bk, then_ct, fin_rt, fin_nx, asg_name, asg_tup, asgs_nil, asgs_cons, le_line, lt_line, cop_eq, cop_ne, cop_lt, cop_le, cop_gt, cop_ge, cop_in, cop_notin, cop_is0, cop_is1, cop_is2, cop_is3, cop_is4, cop_is5, eq_int, eq_bl, eq_str, tru_non, tru_bl, tru_int, tru_tup, tru_ref, tn_non, tn_bl, tn_int, tn_str, tn_tup, tn_ref, isTn, mt_append, mt_pop0, mt_pop, mt_reverse, mt_clear, mt_join, mt_split, mt_find, mt_startswith, mt_partition, wk_tup, wk_str, wk_ref,
    rdL_cons0, rdL_ro0, rdL_succ, rdM_cons0, rdM_succ, List.map_cons, List.map_nil, List.replicate_succ, List.replicate_zero, List.cons_append, List.nil_append, List.append_nil, List.append_assoc, rdL_at, rdL_at0, rdM_at, rdM_at0, set_at, set_at0, List.length_append, Nat.add_assoc, List.getElem?_cons_succ, List.getElem?_cons_zero, List.set_cons_succ, List.set_cons_zero, Nat.reduceSub, Nat.reduceAdd, Option.map_some, Option.bind_some, Option.some.injEq, exists_eq_left', exists_eq_left, exists_eq', exists_and_left, exists_const, D.int.injEq, D.ref.injEq, D.str.injEq, D.bl.injEq, D.tup.injEq, true_and, and_true, List.length_cons, List.length_nil, atI_lit, ixN_lit, Nat.reduceLT, Nat.reduceLeDiff, Nat.reduceEqDiff, Int.reduceLT, Int.reduceLE, Int.reduceEq, Nat.lt_irrefl, Nat.zero_lt_succ, Nat.reduceMul, Int.reduceNeg, Bool.false_eq_true, if_true, if_false, Nat.zero_add, nlit, eq_self, decide_true, decide_false, reduceIte, Bool.or_false, Bool.false_or, Bool.true_or, Bool.or_true, Bool.and_true, Bool.true_and, Bool.and_false, Bool.false_and, Bool.not_true, Bool.not_false, List.all_cons, List.all_nil, List.any_cons, List.any_nil, List.isEmpty_cons]
      rw [← List.map_cons, ← hk]
      refine comp_glu (W := W) (fun xs S hx hl => glued_ok h2 hx hl) (by simp) ok fun S2 g2 => ?_
      obtain ⟨X, rfl⟩ := g2.ex
      simp only [wp_cons, wp_nil, wx_asgi, ev_lit, ev_var, ev_gl, ev_tup, ev_lst, ev_bin, ev_neg, ev_cmp, ev_chain, ev_and, ev_or, ev_not, ev_ifx, ev_idx, ev_slc, ev_call, ev_blt, ev_isi, ev_isis, ev_mth, ev_lc, ei_val, ei_rng1, ei_rng2, ei_zip, ei_enum, wx_addL, ev_fmt, ev_fstr, ev_tupRg1, ev_tupRg2, wp_fmtS, wp_fmtI, wp_fstr, wp_tupRg, wx_reverse, wp_neg, wp_rng1, wp_rng2, evEs, ev_asg, ev_ex, ev_ret, ev_retn, ev_iff, ev_for, ev_pass, ev_brk, ev_cont, ev_nope, wp_no, evT, evAnd, evOr, evTA, evTO, evP, evC, wp_bnd, wp_ret, wp_opt, wp_see, wp_add, wp_sub, wx_mul, wx_fdiv, wx_mod, wx_addS, wx_addT, wx_idxT, wx_idxL, wx_int, wx_abs, wx_lenL, wx_lenT, wx_lenS, wx_strI, wx_tupT, wx_tupL, wx_listT, wx_listL, wx_listS, wx_slcT, wx_slcL, wx_append, wx_pop0, wx_joinL, wx_split, wx_find, wp_newL, wp_setL, then_nx, then_rt, then_bk, then_ct, fin_rt, fin_nx, asg_name, asg_tup, asgs_nil, asgs_cons, le_line, lt_line, cop_eq, cop_ne, cop_lt, cop_le, cop_gt, cop_ge, cop_in, cop_notin, cop_is0, cop_is1, cop_is2, cop_is3, cop_is4, cop_is5, eq_int, eq_bl, eq_str, tru_non, tru_bl, tru_int, tru_tup, tru_ref, tn_non, tn_bl, tn_int, tn_str, tn_tup, tn_ref, isTn, mt_append, mt_pop0, mt_pop, mt_reverse, mt_clear, mt_join, mt_split, mt_find, mt_startswith, mt_partition, wk_tup, wk_str, wk_ref,
    rdL_cons0, rdL_ro0, rdL_succ, rdM_cons0, rdM_succ, List.map_cons, List.map_nil, List.replicate_succ, List.replicate_zero, List.cons_append, List.nil_append, List.append_nil, List.append_assoc, rdL_at, rdL_at0, rdM_at, rdM_at0, set_at, set_at0, List.length_append, Nat.add_assoc, List.getElem?_cons_succ, List.getElem?_cons_zero, List.set_cons_succ, List.set_cons_zero, Nat.reduceSub, Nat.reduceAdd, Option.map_some, Option.bind_some, Option.some.injEq, exists_eq_left', exists_eq_left, exists_eq', exists_and_left, exists_const, D.int.injEq, D.ref.injEq, D.str.injEq, D.bl.injEq, D.tup.injEq, true_and, and_true, List.length_cons, List.length_nil, atI_lit, ixN_lit, Nat.reduceLT, Nat.reduceLeDiff, Nat.reduceEqDiff, Int.reduceLT, Int.reduceLE, Int.reduceEq, Nat.lt_irrefl, Nat.zero_lt_succ, Nat.reduceMul, Int.reduceNeg, Bool.false_eq_true, if_true, if_false, Nat.zero_add, nlit, eq_self, decide_true, decide_false, reduceIte, Bool.or_false, Bool.false_or, Bool.true_or, Bool.or_true, Bool.and_true, Bool.true_and, Bool.and_false, Bool.false_and, Bool.not_true, Bool.not_false, List.all_cons, List.all_nil, List.any_cons, List.any_nil]
      refine ⟨_, strsOf_map _, glu_join ok, ?_⟩
      have e : wordsOf W = [Str.ofString (toString W.w), Str.ofString (toString W.l), Str.ofString (toString W.r), W.snd, ea, W.look, Str.join "," (W.kinds.map glued), commas W.act] := by
        simp only [wordsOf, kindsText, hk, he, reduceCtorEq, if_false]; rfl
      refine ⟨wordsOf W, by rw [e]; exact strsOf_map [_, _, _, _, _, _, _, _], words_join ok, rfl, g1.ap _⟩
  cases he : W.eag with
  | true =>
    simp only [if_true]
    rw [he] at tail
    have := tail "eager" rfl
    simp only [wp_cons, wp_nil, wx_asgi, ev_lit, ev_var, ev_gl, ev_tup, ev_lst, ev_bin, ev_neg, ev_cmp, ev_chain, ev_and, ev_or, ev_not, ev_ifx, ev_idx, ev_slc, ev_call, ev_blt, ev_isi, ev_isis, ev_mth, ev_lc, ei_val, ei_rng1, ei_rng2, ei_zip, ei_enum, wx_addL, ev_fmt, ev_fstr, ev_tupRg1, ev_tupRg2, wp_fmtS, wp_fmtI, wp_fstr, wp_tupRg, wx_reverse, wp_neg, wp_rng1, wp_rng2, evEs, ev_asg, ev_ex, ev_ret, ev_retn, ev_iff, ev_for, ev_pass, ev_brk, ev_cont, ev_nope, wp_no, evT, evAnd, evOr, evTA, evTO, evP, evC, wp_bnd, wp_ret, wp_opt, wp_see, wp_add, wp_sub, wx_mul, wx_fdiv, wx_mod, wx_addS, wx_addT, wx_idxT, wx_idxL, wx_int, wx_abs, wx_lenL, wx_lenT, wx_lenS, wx_strI, wx_tupT, wx_tupL, wx_listT, wx_listL, wx_listS, wx_slcT, wx_slcL, wx_append, wx_pop0, wx_joinL, wx_split, wx_find, wp_newL, wp_setL, then_nx, then_rt, then_bk, then_ct, fin_rt, fin_nx, asg_name, asg_tup, asgs_nil, asgs_cons, le_line, lt_line, cop_eq, cop_ne, cop_lt, cop_le, cop_gt, cop_ge, cop_in, cop_notin, cop_is0, cop_is1, cop_is2, cop_is3, cop_is4, cop_is5, eq_int, eq_bl, eq_str, tru_non, tru_bl, tru_int, tru_tup, tru_ref, tn_non, tn_bl, tn_int, tn_str, tn_tup, tn_ref, isTn, mt_append, mt_pop0, mt_pop, mt_reverse, mt_clear, mt_join, mt_split, mt_find, mt_startswith, mt_partition, wk_tup, wk_str, wk_ref,
    rdL_cons0, rdL_ro0, rdL_succ, rdM_cons0, rdM_succ, List.map_cons, List.map_nil, List.replicate_succ, List.replicate_zero, List.cons_append, List.nil_append, List.append_nil, List.append_assoc, rdL_at, rdL_at0, rdM_at, rdM_at0, set_at, set_at0, List.length_append, Nat.add_assoc, List.getElem?_cons_succ, List.getElem?_cons_zero, List.set_cons_succ, List.set_cons_zero, Nat.reduceSub, Nat.reduceAdd, Option.map_some, Option.bind_some, Option.some.injEq, exists_eq_left', exists_eq_left, exists_eq', exists_and_left, exists_const, D.int.injEq, D.ref.injEq, D.str.injEq, D.bl.injEq, D.tup.injEq, true_and, and_true, List.length_cons, List.length_nil, atI_lit, ixN_lit, Nat.reduceLT, Nat.reduceLeDiff, Nat.reduceEqDiff, Int.reduceLT, Int.reduceLE, Int.reduceEq, Nat.lt_irrefl, Nat.zero_lt_succ, Nat.reduceMul, Int.reduceNeg, Bool.false_eq_true, if_true, if_false, Nat.zero_add, nlit, eq_self, decide_true, decide_false, reduceIte, Bool.or_false, Bool.false_or, Bool.true_or, Bool.or_true, Bool.and_true, Bool.true_and, Bool.and_false, Bool.false_and, Bool.not_true, Bool.not_false, List.all_cons, List.all_nil, List.any_cons, List.any_nil] at this ⊢
    exact this
  | false =>
    rw [he] at tail
    have := tail "free" rfl
    simp only [wp_cons, wp_nil, wx_asgi, ev_lit, ev_var, ev_gl, ev_tup, ev_lst, ev_bin, ev_neg, ev_cmp, ev_chain, ev_and, ev_or, ev_not, ev_ifx, ev_idx, ev_slc, ev_call, ev_blt, ev_isi, ev_isis, ev_mth, ev_lc, ei_val, ei_rng1, ei_rng2, ei_zip, ei_enum, wx_addL, ev_fmt, ev_fstr, ev_tupRg1, ev_tupRg2, wp_fmtS, wp_fmtI, wp_fstr, wp_tupRg, wx_reverse, wp_neg, wp_rng1, wp_rng2, evEs, ev_asg, ev_ex, ev_ret, ev_retn, ev_iff, ev_for, ev_pass, ev_brk, ev_cont, ev_nope, wp_no, evT, evAnd, evOr, evTA, evTO, evP, evC, wp_bnd, wp_ret, wp_opt, wp_see, wp_add, wp_sub, wx_mul, wx_fdiv, wx_mod, wx_addS, wx_addT, wx_idxT, wx_idxL, wx_int, wx_abs, wx_lenL, wx_lenT, wx_lenS, wx_strI, wx_tupT, wx_tupL, wx_listT, wx_listL, wx_listS, wx_slcT, wx_slcL, wx_append, wx_pop0, wx_joinL, wx_split, wx_find, wp_newL, wp_setL, then_nx, then_rt, then_bk, then_ct, fin_rt, fin_nx, asg_name, asg_tup, asgs_nil, asgs_cons, le_line, lt_line, cop_eq, cop_ne, cop_lt, cop_le, cop_gt, cop_ge, cop_in, cop_notin, cop_is0, cop_is1, cop_is2, cop_is3, cop_is4, cop_is5, eq_int, eq_bl, eq_str, tru_non, tru_bl, tru_int, tru_tup, tru_ref, tn_non, tn_bl, tn_int, tn_str, tn_tup, tn_ref, isTn, mt_append, mt_pop0, mt_pop, mt_reverse, mt_clear, mt_join, mt_split, mt_find, mt_startswith, mt_partition, wk_tup, wk_str, wk_ref,
    rdL_cons0, rdL_ro0, rdL_succ, rdM_cons0, rdM_succ, List.map_cons, List.map_nil, List.replicate_succ, List.replicate_zero, List.cons_append, List.nil_append, List.append_nil, List.append_assoc, rdL_at, rdL_at0, rdM_at, rdM_at0, set_at, set_at0, List.length_append, Nat.add_assoc, List.getElem?_cons_succ, List.getElem?_cons_zero, List.set_cons_succ, List.set_cons_zero, Nat.reduceSub, Nat.reduceAdd, Option.map_some, Option.bind_some, Option.some.injEq, exists_eq_left', exists_eq_left, exists_eq', exists_and_left, exists_const, D.int.injEq, D.ref.injEq, D.str.injEq, D.bl.injEq, D.tup.injEq, true_and, and_true, List.length_cons, List.length_nil, atI_lit, ixN_lit, Nat.reduceLT, Nat.reduceLeDiff, Nat.reduceEqDiff, Int.reduceLT, Int.reduceLE, Int.reduceEq, Nat.lt_irrefl, Nat.zero_lt_succ, Nat.reduceMul, Int.reduceNeg, Bool.false_eq_true, if_true, if_false, Nat.zero_add, nlit, eq_self, decide_true, decide_false, reduceIte, Bool.or_false, Bool.false_or, Bool.true_or, Bool.or_true, Bool.and_true, Bool.true_and, Bool.and_false, Bool.false_and, Bool.not_true, Bool.not_false, List.all_cons, List.all_nil, List.any_cons, List.any_nil] at this ⊢
    exact this
end
end My

/-! The program writes a rule. -/
namespace My
open PySem PySem.Spec PyProof.Rows L2
section
variable {ds : List Df} {con : Str → Option D} {fuel k : Nat} {S : Store} {W : Wy}
theorem glued_ne {xs : List Int} (h : Sm10 xs) (hx : xs ≠ []) : TL.tl (glued xs) ≠ [] := by
  unfold glued
  rw [TL.tl_join]
  cases xs with
  | nil => exact (hx rfl).elim
  | cons x xs =>
    simp only [List.map_cons]
    refine joinL_ne ?_
    rw [tl_dig (h x List.mem_cons_self)]; simp
theorem kinds_tru (ok : W.Ok) : ((Str.join "," (W.kinds.map glued)).length != 0) = !W.kinds.isEmpty := by
  cases hk : W.kinds with
  | nil => decide +kernel
  | cons kd ks =>
    have e1 : (Str.join "," ((kd :: ks).map glued)).length ≠ 0 := by
      rw [TL.len_tl, TL.tl_join]
      have : TL.joinL (TL.tl ",") (((kd :: ks).map glued).map TL.tl) ≠ [] := by
        simp only [List.map_cons]
        have hm : kd ∈ W.kinds := by rw [hk]; exact List.mem_cons_self
        exact joinL_ne (glued_ne (ok.kd10 kd hm).1 (ok.kd kd hm).2)
      simpa using this
    simpa using e1
structure FR (ds : List Df) (con : Str → Option D) : Prop where
  show_rule : FD ds Lib.df_show_rule
  need : FD ds Lib.df_need_rule
  rule : FD ds Lib.df_is_rule
  integer : FD ds Lib.df_is_integer
  word : FD ds Lib.df_is_word
  asc : FD ds Lib.df_is_ascending
  joined : FD ds Lib.df_joined_digits
  numbers : FD ds Lib.df_show_numbers
  sends : con "SENDS" = some sendsD
  looks : con "LOOKS" = some looksD
theorem show_rule_ok (h : FR ds con) (ok : W.Ok) : Pu (callD ds con fuel (k + 5) "show_rule" [W.d]) S (.str (textOf W)) := by
  refine pu_call h.show_rule rfl rfl ?_
  simp only [Lib.df_show_rule, Lib.b_show_rule]
  simp only [wp_cons, wp_nil, wx_asgi, ev_lit, ev_var, ev_gl, ev_tup, ev_lst, ev_bin, ev_neg, ev_cmp, ev_chain, ev_and, ev_or, ev_not, ev_ifx, ev_idx, ev_slc, ev_call, ev_blt, ev_isi, ev_isis, ev_mth, ev_lc, ei_val, ei_rng1, ei_rng2, ei_zip, ei_enum, wx_addL, ev_fmt, ev_fstr, ev_tupRg1, ev_tupRg2, wp_fmtS, wp_fmtI, wp_fstr, wp_tupRg, wx_reverse, wp_neg, wp_rng1, wp_rng2, evEs, ev_asg, ev_ex, ev_ret, ev_retn, ev_iff, ev_for, ev_pass, ev_brk, ev_cont, ev_nope, wp_no, evT, evAnd, evOr, evTA, evTO, evP, evC, wp_bnd, wp_ret, wp_opt, wp_see, wp_add, wp_sub, wx_mul, wx_fdiv, wx_mod, wx_addS, wx_addT, wx_idxT, wx_idxL, wx_int, wx_abs, wx_lenL, wx_lenT, wx_lenS, wx_strI, wx_tupT, wx_tupL, wx_listT, wx_listL, wx_listS, wx_slcT, wx_slcL, wx_append, wx_pop0, wx_joinL, wx_split, wx_find, wp_newL, wp_setL, then_nx, then_rt, then_bk, then_ct, fin_rt, fin_nx, asg_name, asg_tup, asgs_nil, asgs_cons, le_line, lt_line, cop_eq, cop_ne, cop_lt, cop_le, cop_gt, cop_ge, cop_in, cop_notin, cop_is0, cop_is1, cop_is2, cop_is3, cop_is4, cop_is5, eq_int, eq_bl, eq_str, tru_non, tru_bl, tru_int, tru_tup, tru_ref, tn_non, tn_bl, tn_int, tn_str, tn_tup, tn_ref, isTn, mt_append, mt_pop0, mt_pop, mt_reverse, mt_clear, mt_join, mt_split, mt_find, mt_startswith, mt_partition, wk_tup, wk_str, wk_ref,
    rdL_cons0, rdL_ro0, rdL_succ, rdM_cons0, rdM_succ, List.map_cons, List.map_nil, List.replicate_succ, List.replicate_zero, List.cons_append, List.nil_append, List.append_nil, List.append_assoc, rdL_at, rdL_at0, rdM_at, rdM_at0, set_at, set_at0, List.length_append, Nat.add_assoc, List.getElem?_cons_succ, List.getElem?_cons_zero, List.set_cons_succ, List.set_cons_zero, Nat.reduceSub, Nat.reduceAdd, Option.map_some, Option.bind_some, Option.some.injEq, exists_eq_left', exists_eq_left, exists_eq', exists_and_left, exists_const, D.int.injEq, D.ref.injEq, D.str.injEq, D.bl.injEq, D.tup.injEq, true_and, and_true, List.length_cons, List.length_nil, atI_lit, ixN_lit, Nat.reduceLT, Nat.reduceLeDiff, Nat.reduceEqDiff, Int.reduceLT, Int.reduceLE, Int.reduceEq, Nat.lt_irrefl, Nat.zero_lt_succ, Nat.reduceMul, Int.reduceNeg, Bool.false_eq_true, if_true, if_false, Nat.zero_add, nlit, eq_self, decide_true, decide_false, reduceIte, Bool.or_false, Bool.false_or, Bool.true_or, Bool.or_true, Bool.and_true, Bool.true_and, Bool.and_false, Bool.false_and, Bool.not_true, Bool.not_false, List.all_cons, List.all_nil, List.any_cons, List.any_nil]
  refine (need_rule_ok h.need h.rule h.integer h.word h.asc h.sends h.looks ok).to fun S1 g1 => ?_
  simp only [Wy.d]
  simp only [wp_cons, wp_nil, wx_asgi, ev_lit, ev_var, ev_gl, ev_tup, ev_lst, ev_bin, ev_neg, ev_cmp, ev_chain, ev_and, ev_or, ev_not, ev_ifx, ev_idx, ev_slc, ev_call, ev_blt, ev_isi, ev_isis, ev_mth, ev_lc, ei_val, ei_rng1, ei_rng2, ei_zip, ei_enum, wx_addL, ev_fmt, ev_fstr, ev_tupRg1, ev_tupRg2, wp_fmtS, wp_fmtI, wp_fstr, wp_tupRg, wx_reverse, wp_neg, wp_rng1, wp_rng2, evEs, ev_asg, ev_ex, ev_ret, ev_retn, ev_iff, ev_for, ev_pass, ev_brk, ev_cont, ev_nope, wp_no, evT, evAnd, evOr, evTA, evTO, evP, evC, wp_bnd, wp_ret, wp_opt, wp_see, wp_add, wp_sub, wx_mul, wx_fdiv, wx_mod, wx_addS, wx_addT, wx_idxT, wx_idxL, wx_int, wx_abs, wx_lenL, wx_lenT, wx_lenS, wx_strI, wx_tupT, wx_tupL, wx_listT, wx_listL, wx_listS, wx_slcT, wx_slcL, wx_append, wx_pop0, wx_joinL, wx_split, wx_find, wp_newL, wp_setL, then_nx, then_rt, then_bk, then_ct, fin_rt, fin_nx, asg_name, asg_tup, asgs_nil, asgs_cons, le_line, lt_line, cop_eq, cop_ne, cop_lt, cop_le, cop_gt, cop_ge, cop_in, cop_notin, cop_is0, cop_is1, cop_is2, cop_is3, cop_is4, cop_is5, eq_int, eq_bl, eq_str, tru_non, tru_bl, tru_int, tru_tup, tru_ref, tn_non, tn_bl, tn_int, tn_str, tn_tup, tn_ref, isTn, mt_append, mt_pop0, mt_pop, mt_reverse, mt_clear, mt_join, mt_split, mt_find, mt_startswith, mt_partition, wk_tup, wk_str, wk_ref,
    rdL_cons0, rdL_ro0, rdL_succ, rdM_cons0, rdM_succ, List.map_cons, List.map_nil, List.replicate_succ, List.replicate_zero, List.cons_append, List.nil_append, List.append_nil, List.append_assoc, rdL_at, rdL_at0, rdM_at, rdM_at0, set_at, set_at0, List.length_append, Nat.add_assoc, List.getElem?_cons_succ, List.getElem?_cons_zero, List.set_cons_succ, List.set_cons_zero, Nat.reduceSub, Nat.reduceAdd, Option.map_some, Option.bind_some, Option.some.injEq, exists_eq_left', exists_eq_left, exists_eq', exists_and_left, exists_const, D.int.injEq, D.ref.injEq, D.str.injEq, D.bl.injEq, D.tup.injEq, true_and, and_true, List.length_cons, List.length_nil, atI_lit, ixN_lit, Nat.reduceLT, Nat.reduceLeDiff, Nat.reduceEqDiff, Int.reduceLT, Int.reduceLE, Int.reduceEq, Nat.lt_irrefl, Nat.zero_lt_succ, Nat.reduceMul, Int.reduceNeg, Bool.false_eq_true, if_true, if_false, Nat.zero_add, nlit, eq_self, decide_true, decide_false, reduceIte, Bool.or_false, Bool.false_or, Bool.true_or, Bool.or_true, Bool.and_true, Bool.true_and, Bool.and_false, Bool.false_and, Bool.not_true, Bool.not_false, List.all_cons, List.all_nil, List.any_cons, List.any_nil]
  refine ⟨log_dig (by have := ok.w; omega), log_dig (by have := ok.l; omega), log_dig (by have := ok.r; omega), ?_⟩
  have tail : ∀ (ea : Str) (he : ea = if W.eag then ("eager" : Str) else ("free" : Str)), Wp (evSs ⟨callD ds con fuel (k + 4), con, fuel⟩ (.cons (.ex (.mth (.var 1) .append (.cons (.or_ (.cons (.mth (.lit (.str ",")) .join (.cons (.lc (.call "joined_digits" (.cons (.var 10) .nil)) (.name 10) (.val (.var 8)) .nil [("kind", 10)]) .nil)) (.cons (.lit (.str "-")) .nil))) .nil)))
 (.cons (.ex (.mth (.var 1) .append (.cons (.call "show_numbers" (.cons (.var 9) .nil)) .nil)))
 (.cons (.ret (.mth (.lit (.str " ")) .join (.cons (.var 1) .nil)))
 .nil))) [some (.tup [.int W.w, .int W.l, .int W.r, .str W.snd, .bl W.eag, .str W.look, .tup (W.kinds.map tupI), tupI W.act]), some (.ref S1.length), some (.int W.w), some (.int W.l), some (.int W.r), some (.str W.snd), some (.bl W.eag), some (.str W.look), some (.tup (W.kinds.map tupI)), some (tupI W.act), none])
      (S1 ++ [.lst [.str (Str.ofString (toString W.w)), .str (Str.ofString (toString W.l)), .str (Str.ofString (toString W.r)), .str W.snd, .str ea, .str W.look]]) (Fin fun a S' => a = .str (textOf W) ∧ Gr S S') := by
    intro ea he
    simp only [wp_cons, wp_nil, wx_asgi, ev_lit, ev_var, ev_gl, ev_tup, ev_lst, ev_bin, ev_neg, ev_cmp, ev_chain, ev_and, ev_or, ev_not, ev_ifx, ev_idx, ev_slc, ev_call, ev_blt, ev_isi, ev_isis, ev_mth, ev_lc, ei_val, ei_rng1, ei_rng2, ei_zip, ei_enum, wx_addL, ev_fmt, ev_fstr, ev_tupRg1, ev_tupRg2, wp_fmtS, wp_fmtI, wp_fstr, wp_tupRg, wx_reverse, wp_neg, wp_rng1, wp_rng2, evEs, ev_asg, ev_ex, ev_ret, ev_retn, ev_iff, ev_for, ev_pass, ev_brk, ev_cont, ev_nope, wp_no, evT, evAnd, evOr, evTA, evTO, evP, evC, wp_bnd, wp_ret, wp_opt, wp_see, wp_add, wp_sub, wx_mul, wx_fdiv, wx_mod, wx_addS, wx_addT, wx_idxT, wx_idxL, wx_int, wx_abs, wx_lenL, wx_lenT, wx_lenS, wx_strI, wx_tupT, wx_tupL, wx_listT, wx_listL, wx_listS, wx_slcT, wx_slcL, wx_append, wx_pop0, wx_joinL, wx_split, wx_find, wp_newL, wp_setL, then_nx, then_rt, then_bk, then_ct, fin_rt, fin_nx, asg_name, asg_tup, asgs_nil, asgs_cons, le_line, lt_line, cop_eq, cop_ne, cop_lt, cop_le, cop_gt, cop_ge, cop_in, cop_notin, cop_is0, cop_is1, cop_is2, cop_is3, cop_is4, cop_is5, eq_int, eq_bl, eq_str, tru_non, tru_bl, tru_int, tru_tup, tru_ref, tn_non, tn_bl, tn_int, tn_str, tn_tup, tn_ref, isTn, mt_append, mt_pop0, mt_pop, mt_reverse, mt_clear, mt_join, mt_split, mt_find, mt_startswith, mt_partition, wk_tup, wk_str, wk_ref,
    rdL_cons0, rdL_ro0, rdL_succ, rdM_cons0, rdM_succ, List.map_cons, List.map_nil, List.replicate_succ, List.replicate_zero, List.cons_append, List.nil_append, List.append_nil, List.append_assoc, rdL_at, rdL_at0, rdM_at, rdM_at0, set_at, set_at0, List.length_append, Nat.add_assoc, List.getElem?_cons_succ, List.getElem?_cons_zero, List.set_cons_succ, List.set_cons_zero, Nat.reduceSub, Nat.reduceAdd, Option.map_some, Option.bind_some, Option.some.injEq, exists_eq_left', exists_eq_left, exists_eq', exists_and_left, exists_const, D.int.injEq, D.ref.injEq, D.str.injEq, D.bl.injEq, D.tup.injEq, true_and, and_true, List.length_cons, List.length_nil, atI_lit, ixN_lit, Nat.reduceLT, Nat.reduceLeDiff, Nat.reduceEqDiff, Int.reduceLT, Int.reduceLE, Int.reduceEq, Nat.lt_irrefl, Nat.zero_lt_succ, Nat.reduceMul, Int.reduceNeg, Bool.false_eq_true, if_true, if_false, Nat.zero_add, nlit, eq_self, decide_true, decide_false, reduceIte, Bool.or_false, Bool.false_or, Bool.true_or, Bool.or_true, Bool.and_true, Bool.true_and, Bool.and_false, Bool.false_and, Bool.not_true, Bool.not_false, List.all_cons, List.all_nil, List.any_cons, List.any_nil]
    refine comp_glu (W := W) (fun xs S hx hl => joined_digits_ok h.joined hx hl) (by simp) ok fun S2 g2 => ?_
    obtain ⟨X, rfl⟩ := g2.ex
    have hsz : (Str.join "," (W.kinds.map glued)).length ≤ sizeLine := by
      have h1 := join_len_le "," (W.kinds.map glued)
      have := kinds_sum ok
      have := ok.kl
      have e : (Str.ofString ",").length = 1 := by decide +kernel
      rw [e, List.length_map] at h1
      exact Nat.le_trans (by omega : _ ≤ 1000) (by decide)
    simp only [wp_cons, wp_nil, wx_asgi, ev_lit, ev_var, ev_gl, ev_tup, ev_lst, ev_bin, ev_neg, ev_cmp, ev_chain, ev_and, ev_or, ev_not, ev_ifx, ev_idx, ev_slc, ev_call, ev_blt, ev_isi, ev_isis, ev_mth, ev_lc, ei_val, ei_rng1, ei_rng2, ei_zip, ei_enum, wx_addL, ev_fmt, ev_fstr, ev_tupRg1, ev_tupRg2, wp_fmtS, wp_fmtI, wp_fstr, wp_tupRg, wx_reverse, wp_neg, wp_rng1, wp_rng2, evEs, ev_asg, ev_ex, ev_ret, ev_retn, ev_iff, ev_for, ev_pass, ev_brk, ev_cont, ev_nope, wp_no, evT, evAnd, evOr, evTA, evTO, evP, evC, wp_bnd, wp_ret, wp_opt, wp_see, wp_add, wp_sub, wx_mul, wx_fdiv, wx_mod, wx_addS, wx_addT, wx_idxT, wx_idxL, wx_int, wx_abs, wx_lenL, wx_lenT, wx_lenS, wx_strI, wx_tupT, wx_tupL, wx_listT, wx_listL, wx_listS, wx_slcT, wx_slcL, wx_append, wx_pop0, wx_joinL, wx_split, wx_find, wp_newL, wp_setL, then_nx, then_rt, then_bk, then_ct, fin_rt, fin_nx, asg_name, asg_tup, asgs_nil, asgs_cons, le_line, lt_line, cop_eq, cop_ne, cop_lt, cop_le, cop_gt, cop_ge, cop_in, cop_notin, cop_is0, cop_is1, cop_is2, cop_is3, cop_is4, cop_is5, eq_int, eq_bl, eq_str, tru_non, tru_bl, tru_int, tru_tup, tru_ref, tn_non, tn_bl, tn_int, tn_str, tn_tup, tn_ref, isTn, mt_append, mt_pop0, mt_pop, mt_reverse, mt_clear, mt_join, mt_split, mt_find, mt_startswith, mt_partition, wk_tup, wk_str, wk_ref,
    rdL_cons0, rdL_ro0, rdL_succ, rdM_cons0, rdM_succ, List.map_cons, List.map_nil, List.replicate_succ, List.replicate_zero, List.cons_append, List.nil_append, List.append_nil, List.append_assoc, rdL_at, rdL_at0, rdM_at, rdM_at0, set_at, set_at0, List.length_append, Nat.add_assoc, List.getElem?_cons_succ, List.getElem?_cons_zero, List.set_cons_succ, List.set_cons_zero, Nat.reduceSub, Nat.reduceAdd, Option.map_some, Option.bind_some, Option.some.injEq, exists_eq_left', exists_eq_left, exists_eq', exists_and_left, exists_const, D.int.injEq, D.ref.injEq, D.str.injEq, D.bl.injEq, D.tup.injEq, true_and, and_true, List.length_cons, List.length_nil, atI_lit, ixN_lit, Nat.reduceLT, Nat.reduceLeDiff, Nat.reduceEqDiff, Int.reduceLT, Int.reduceLE, Int.reduceEq, Nat.lt_irrefl, Nat.zero_lt_succ, Nat.reduceMul, Int.reduceNeg, Bool.false_eq_true, if_true, if_false, Nat.zero_add, nlit, eq_self, decide_true, decide_false, reduceIte, Bool.or_false, Bool.false_or, Bool.true_or, Bool.or_true, Bool.and_true, Bool.true_and, Bool.and_false, Bool.false_and, Bool.not_true, Bool.not_false, List.all_cons, List.all_nil, List.any_cons, List.any_nil]
    refine ⟨_, strsOf_map _, glu_join ok, ?_⟩
    rw [tru_str hsz, kinds_tru ok]
    simp only [wp_cons, wp_nil, wx_asgi, ev_lit, ev_var, ev_gl, ev_tup, ev_lst, ev_bin, ev_neg, ev_cmp, ev_chain, ev_and, ev_or, ev_not, ev_ifx, ev_idx, ev_slc, ev_call, ev_blt, ev_isi, ev_isis, ev_mth, ev_lc, ei_val, ei_rng1, ei_rng2, ei_zip, ei_enum, wx_addL, ev_fmt, ev_fstr, ev_tupRg1, ev_tupRg2, wp_fmtS, wp_fmtI, wp_fstr, wp_tupRg, wx_reverse, wp_neg, wp_rng1, wp_rng2, evEs, ev_asg, ev_ex, ev_ret, ev_retn, ev_iff, ev_for, ev_pass, ev_brk, ev_cont, ev_nope, wp_no, evT, evAnd, evOr, evTA, evTO, evP, evC, wp_bnd, wp_ret, wp_opt, wp_see, wp_add, wp_sub, wx_mul, wx_fdiv, wx_mod, wx_addS, wx_addT, wx_idxT, wx_idxL, wx_int, wx_abs, wx_lenL, wx_lenT, wx_lenS, wx_strI, wx_tupT, wx_tupL, wx_listT, wx_listL, wx_listS, wx_slcT, wx_slcL, wx_append, wx_pop0, wx_joinL, wx_split, wx_find, wp_newL, wp_setL, then_nx, then_rt, then_bk, then_ct, fin_rt, fin_nx, asg_name, asg_tup, asgs_nil, asgs_cons, le_line, lt_line, cop_eq, cop_ne, cop_lt, cop_le, cop_gt, cop_ge, cop_in, cop_notin, cop_is0, cop_is1, cop_is2, cop_is3, cop_is4, cop_is5, eq_int, eq_bl, eq_str, tru_non, tru_bl, tru_int, tru_tup, tru_ref, tn_non, tn_bl, tn_int, tn_str, tn_tup, tn_ref, isTn, mt_append, mt_pop0, mt_pop, mt_reverse, mt_clear, mt_join, mt_split, mt_find, mt_startswith, mt_partition, wk_tup, wk_str, wk_ref,
    rdL_cons0, rdL_ro0, rdL_succ, rdM_cons0, rdM_succ, List.map_cons, List.map_nil, List.replicate_succ, List.replicate_zero, List.cons_append, List.nil_append, List.append_nil, List.append_assoc, rdL_at, rdL_at0, rdM_at, rdM_at0, set_at, set_at0, List.length_append, Nat.add_assoc, List.getElem?_cons_succ, List.getElem?_cons_zero, List.set_cons_succ, List.set_cons_zero, Nat.reduceSub, Nat.reduceAdd, Option.map_some, Option.bind_some, Option.some.injEq, exists_eq_left', exists_eq_left, exists_eq', exists_and_left, exists_const, D.int.injEq, D.ref.injEq, D.str.injEq, D.bl.injEq, D.tup.injEq, true_and, and_true, List.length_cons, List.length_nil, atI_lit, ixN_lit, Nat.reduceLT, Nat.reduceLeDiff, Nat.reduceEqDiff, Int.reduceLT, Int.reduceLE, Int.reduceEq, Nat.lt_irrefl, Nat.zero_lt_succ, Nat.reduceMul, Int.reduceNeg, Bool.false_eq_true, if_true, if_false, Nat.zero_add, nlit, eq_self, decide_true, decide_false, reduceIte, Bool.or_false, Bool.false_or, Bool.true_or, Bool.or_true, Bool.and_true, Bool.true_and, Bool.and_false, Bool.false_and, Bool.not_true, Bool.not_false, List.all_cons, List.all_nil, List.any_cons, List.any_nil]
    have e : Wp (if (!W.kinds.isEmpty) = true then ret (D.str (Str.join (Str.ofString ",") (W.kinds.map glued))) else ret (D.str (Str.ofString "-"))) = Wp (ret (D.str (kindsText W.kinds))) := by
      cases hk : W.kinds with
      | nil => rfl
      | cons kd ks =>
        simp only [List.isEmpty_cons, Bool.not_false, if_true, kindsText, reduceCtorEq, if_false]
    rw [e]
    simp only [wp_cons, wp_nil, wx_asgi, ev_lit, ev_var, ev_gl, ev_tup, ev_lst, ev_bin, ev_neg, ev_cmp, ev_chain, ev_and, ev_or, ev_not, ev_ifx, ev_idx, ev_slc, ev_call, ev_blt, ev_isi, ev_isis, ev_mth, ev_lc, ei_val, ei_rng1, ei_rng2, ei_zip, ei_enum, wx_addL, ev_fmt, ev_fstr, ev_tupRg1, ev_tupRg2, wp_fmtS, wp_fmtI, wp_fstr, wp_tupRg, wx_reverse, wp_neg, wp_rng1, wp_rng2, evEs, ev_asg, ev_ex, ev_ret, ev_retn, ev_iff, ev_for, ev_pass, ev_brk, ev_cont, ev_nope, wp_no, evT, evAnd, evOr, evTA, evTO, evP, evC, wp_bnd, wp_ret, wp_opt, wp_see, wp_add, wp_sub, wx_mul, wx_fdiv, wx_mod, wx_addS, wx_addT, wx_idxT, wx_idxL, wx_int, wx_abs, wx_lenL, wx_lenT, wx_lenS, wx_strI, wx_tupT, wx_tupL, wx_listT, wx_listL, wx_listS, wx_slcT, wx_slcL, wx_append, wx_pop0, wx_joinL, wx_split, wx_find, wp_newL, wp_setL, then_nx, then_rt, then_bk, then_ct, fin_rt, fin_nx, asg_name, asg_tup, asgs_nil, asgs_cons, le_line, lt_line, cop_eq, cop_ne, cop_lt, cop_le, cop_gt, cop_ge, cop_in, cop_notin, cop_is0, cop_is1, cop_is2, cop_is3, cop_is4, cop_is5, eq_int, eq_bl, eq_str, tru_non, tru_bl, tru_int, tru_tup, tru_ref, tn_non, tn_bl, tn_int, tn_str, tn_tup, tn_ref, isTn, mt_append, mt_pop0, mt_pop, mt_reverse, mt_clear, mt_join, mt_split, mt_find, mt_startswith, mt_partition, wk_tup, wk_str, wk_ref,
    rdL_cons0, rdL_ro0, rdL_succ, rdM_cons0, rdM_succ, List.map_cons, List.map_nil, List.replicate_succ, List.replicate_zero, List.cons_append, List.nil_append, List.append_nil, List.append_assoc, rdL_at, rdL_at0, rdM_at, rdM_at0, set_at, set_at0, List.length_append, Nat.add_assoc, List.getElem?_cons_succ, List.getElem?_cons_zero, List.set_cons_succ, List.set_cons_zero, Nat.reduceSub, Nat.reduceAdd, Option.map_some, Option.bind_some, Option.some.injEq, exists_eq_left', exists_eq_left, exists_eq', exists_and_left, exists_const, D.int.injEq, D.ref.injEq, D.str.injEq, D.bl.injEq, D.tup.injEq, true_and, and_true, List.length_cons, List.length_nil, atI_lit, ixN_lit, Nat.reduceLT, Nat.reduceLeDiff, Nat.reduceEqDiff, Int.reduceLT, Int.reduceLE, Int.reduceEq, Nat.lt_irrefl, Nat.zero_lt_succ, Nat.reduceMul, Int.reduceNeg, Bool.false_eq_true, if_true, if_false, Nat.zero_add, nlit, eq_self, decide_true, decide_false, reduceIte, Bool.or_false, Bool.false_or, Bool.true_or, Bool.or_true, Bool.and_true, Bool.true_and, Bool.and_false, Bool.false_and, Bool.not_true, Bool.not_false, List.all_cons, List.all_nil, List.any_cons, List.any_nil]
    refine (show_numbers_ok h.numbers ok.act10 (by have := ok.al; omega)).to fun S3 g3 => ?_
    obtain ⟨Y, rfl⟩ := g3
    simp only [wp_cons, wp_nil, wx_asgi, ev_lit, ev_var, ev_gl, ev_tup, ev_lst, ev_bin, ev_neg, ev_cmp, ev_chain, ev_and, ev_or, ev_not, ev_ifx, ev_idx, ev_slc, ev_call, ev_blt, ev_isi, ev_isis, ev_mth, ev_lc, ei_val, ei_rng1, ei_rng2, ei_zip, ei_enum, wx_addL, ev_fmt, ev_fstr, ev_tupRg1, ev_tupRg2, wp_fmtS, wp_fmtI, wp_fstr, wp_tupRg, wx_reverse, wp_neg, wp_rng1, wp_rng2, evEs, ev_asg, ev_ex, ev_ret, ev_retn, ev_iff, ev_for, ev_pass, ev_brk, ev_cont, ev_nope, wp_no, evT, evAnd, evOr, evTA, evTO, evP, evC, wp_bnd, wp_ret, wp_opt, wp_see, wp_add, wp_sub, wx_mul, wx_fdiv, wx_mod, wx_addS, wx_addT, wx_idxT, wx_idxL, wx_int, wx_abs, wx_lenL, wx_lenT, wx_lenS, wx_strI, wx_tupT, wx_tupL, wx_listT, wx_listL, wx_listS, wx_slcT, wx_slcL, wx_append, wx_pop0, wx_joinL, wx_split, wx_find, wp_newL, wp_setL, then_nx, then_rt, then_bk, then_ct, fin_rt, fin_nx, asg_name, asg_tup, asgs_nil, asgs_cons, le_line, lt_line, cop_eq, cop_ne, cop_lt, cop_le, cop_gt, cop_ge, cop_in, cop_notin, cop_is0, cop_is1, cop_is2, cop_is3, cop_is4, cop_is5, eq_int, eq_bl, eq_str, tru_non, tru_bl, tru_int, tru_tup, tru_ref, tn_non, tn_bl, tn_int, tn_str, tn_tup, tn_ref, isTn, mt_append, mt_pop0, mt_pop, mt_reverse, mt_clear, mt_join, mt_split, mt_find, mt_startswith, mt_partition, wk_tup, wk_str, wk_ref,
    rdL_cons0, rdL_ro0, rdL_succ, rdM_cons0, rdM_succ, List.map_cons, List.map_nil, List.replicate_succ, List.replicate_zero, List.cons_append, List.nil_append, List.append_nil, List.append_assoc, rdL_at, rdL_at0, rdM_at, rdM_at0, set_at, set_at0, List.length_append, Nat.add_assoc, List.getElem?_cons_succ, List.getElem?_cons_zero, List.set_cons_succ, List.set_cons_zero, Nat.reduceSub, Nat.reduceAdd, Option.map_some, Option.bind_some, Option.some.injEq, exists_eq_left', exists_eq_left, exists_eq', exists_and_left, exists_const, D.int.injEq, D.ref.injEq, D.str.injEq, D.bl.injEq, D.tup.injEq, true_and, and_true, List.length_cons, List.length_nil, atI_lit, ixN_lit, Nat.reduceLT, Nat.reduceLeDiff, Nat.reduceEqDiff, Int.reduceLT, Int.reduceLE, Int.reduceEq, Nat.lt_irrefl, Nat.zero_lt_succ, Nat.reduceMul, Int.reduceNeg, Bool.false_eq_true, if_true, if_false, Nat.zero_add, nlit, eq_self, decide_true, decide_false, reduceIte, Bool.or_false, Bool.false_or, Bool.true_or, Bool.or_true, Bool.and_true, Bool.true_and, Bool.and_false, Bool.false_and, Bool.not_true, Bool.not_false, List.all_cons, List.all_nil, List.any_cons, List.any_nil]
    have e : wordsOf W = [Str.ofString (toString W.w), Str.ofString (toString W.l), Str.ofString (toString W.r), W.snd, ea, W.look, kindsText W.kinds, commas W.act] := by
      simp only [wordsOf, he]; rfl
    refine ⟨wordsOf W, by rw [e]; exact strsOf_map [_, _, _, _, _, _, _, _], words_join ok, rfl, g1.ap _⟩
  cases he : W.eag with
  | true =>
    simp only [if_true]
    rw [he] at tail
    have := tail "eager" rfl
    simp only [wp_cons, wp_nil, wx_asgi, ev_lit, ev_var, ev_gl, ev_tup, ev_lst, ev_bin, ev_neg, ev_cmp, ev_chain, ev_and, ev_or, ev_not, ev_ifx, ev_idx, ev_slc, ev_call, ev_blt, ev_isi, ev_isis, ev_mth, ev_lc, ei_val, ei_rng1, ei_rng2, ei_zip, ei_enum, wx_addL, ev_fmt, ev_fstr, ev_tupRg1, ev_tupRg2, wp_fmtS, wp_fmtI, wp_fstr, wp_tupRg, wx_reverse, wp_neg, wp_rng1, wp_rng2, evEs, ev_asg, ev_ex, ev_ret, ev_retn, ev_iff, ev_for, ev_pass, ev_brk, ev_cont, ev_nope, wp_no, evT, evAnd, evOr, evTA, evTO, evP, evC, wp_bnd, wp_ret, wp_opt, wp_see, wp_add, wp_sub, wx_mul, wx_fdiv, wx_mod, wx_addS, wx_addT, wx_idxT, wx_idxL, wx_int, wx_abs, wx_lenL, wx_lenT, wx_lenS, wx_strI, wx_tupT, wx_tupL, wx_listT, wx_listL, wx_listS, wx_slcT, wx_slcL, wx_append, wx_pop0, wx_joinL, wx_split, wx_find, wp_newL, wp_setL, then_nx, then_rt, then_bk, then_ct, fin_rt, fin_nx, asg_name, asg_tup, asgs_nil, asgs_cons, le_line, lt_line, cop_eq, cop_ne, cop_lt, cop_le, cop_gt, cop_ge, cop_in, cop_notin, cop_is0, cop_is1, cop_is2, cop_is3, cop_is4, cop_is5, eq_int, eq_bl, eq_str, tru_non, tru_bl, tru_int, tru_tup, tru_ref, tn_non, tn_bl, tn_int, tn_str, tn_tup, tn_ref, isTn, mt_append, mt_pop0, mt_pop, mt_reverse, mt_clear, mt_join, mt_split, mt_find, mt_startswith, mt_partition, wk_tup, wk_str, wk_ref,
    rdL_cons0, rdL_ro0, rdL_succ, rdM_cons0, rdM_succ, List.map_cons, List.map_nil, List.replicate_succ, List.replicate_zero, List.cons_append, List.nil_append, List.append_nil, List.append_assoc, rdL_at, rdL_at0, rdM_at, rdM_at0, set_at, set_at0, List.length_append, Nat.add_assoc, List.getElem?_cons_succ, List.getElem?_cons_zero, List.set_cons_succ, List.set_cons_zero, Nat.reduceSub, Nat.reduceAdd, Option.map_some, Option.bind_some, Option.some.injEq, exists_eq_left', exists_eq_left, exists_eq', exists_and_left, exists_const, D.int.injEq, D.ref.injEq, D.str.injEq, D.bl.injEq, D.tup.injEq, true_and, and_true, List.length_cons, List.length_nil, atI_lit, ixN_lit, Nat.reduceLT, Nat.reduceLeDiff, Nat.reduceEqDiff, Int.reduceLT, Int.reduceLE, Int.reduceEq, Nat.lt_irrefl, Nat.zero_lt_succ, Nat.reduceMul, Int.reduceNeg, Bool.false_eq_true, if_true, if_false, Nat.zero_add, nlit, eq_self, decide_true, decide_false, reduceIte, Bool.or_false, Bool.false_or, Bool.true_or, Bool.or_true, Bool.and_true, Bool.true_and, Bool.and_false, Bool.false_and, Bool.not_true, Bool.not_false, List.all_cons, List.all_nil, List.any_cons, List.any_nil] at this ⊢
    exact this
  | false =>
    rw [he] at tail
    have := tail "free" rfl
    simp only [wp_cons, wp_nil, wx_asgi, ev_lit, ev_var, ev_gl, ev_tup, ev_lst, ev_bin, ev_neg, ev_cmp, ev_chain, ev_and, ev_or, ev_not, ev_ifx, ev_idx, ev_slc, ev_call, ev_blt, ev_isi, ev_isis, ev_mth, ev_lc, ei_val, ei_rng1, ei_rng2, ei_zip, ei_enum, wx_addL, ev_fmt, ev_fstr, ev_tupRg1, ev_tupRg2, wp_fmtS, wp_fmtI, wp_fstr, wp_tupRg, wx_reverse, wp_neg, wp_rng1, wp_rng2, evEs, ev_asg, ev_ex, ev_ret, ev_retn, ev_iff, ev_for, ev_pass, ev_brk, ev_cont, ev_nope, wp_no, evT, evAnd, evOr, evTA, evTO, evP, evC, wp_bnd, wp_ret, wp_opt, wp_see, wp_add, wp_sub, wx_mul, wx_fdiv, wx_mod, wx_addS, wx_addT, wx_idxT, wx_idxL, wx_int, wx_abs, wx_lenL, wx_lenT, wx_lenS, wx_strI, wx_tupT, wx_tupL, wx_listT, wx_listL, wx_listS, wx_slcT, wx_slcL, wx_append, wx_pop0, wx_joinL, wx_split, wx_find, wp_newL, wp_setL, then_nx, then_rt, then_bk, then_ct, fin_rt, fin_nx, asg_name, asg_tup, asgs_nil, asgs_cons, le_line, lt_line, cop_eq, cop_ne, cop_lt, cop_le, cop_gt, cop_ge, cop_in, cop_notin, cop_is0, cop_is1, cop_is2, cop_is3, cop_is4, cop_is5, eq_int, eq_bl, eq_str, tru_non, tru_bl, tru_int, tru_tup, tru_ref, tn_non, tn_bl, tn_int, tn_str, tn_tup, tn_ref, isTn, mt_append, mt_pop0, mt_pop, mt_reverse, mt_clear, mt_join, mt_split, mt_find, mt_startswith, mt_partition, wk_tup, wk_str, wk_ref,
    rdL_cons0, rdL_ro0, rdL_succ, rdM_cons0, rdM_succ, List.map_cons, List.map_nil, List.replicate_succ, List.replicate_zero, List.cons_append, List.nil_append, List.append_nil, List.append_assoc, rdL_at, rdL_at0, rdM_at, rdM_at0, set_at, set_at0, List.length_append, Nat.add_assoc, List.getElem?_cons_succ, List.getElem?_cons_zero, List.set_cons_succ, List.set_cons_zero, Nat.reduceSub, Nat.reduceAdd, Option.map_some, Option.bind_some, Option.some.injEq, exists_eq_left', exists_eq_left, exists_eq', exists_and_left, exists_const, D.int.injEq, D.ref.injEq, D.str.injEq, D.bl.injEq, D.tup.injEq, true_and, and_true, List.length_cons, List.length_nil, atI_lit, ixN_lit, Nat.reduceLT, Nat.reduceLeDiff, Nat.reduceEqDiff, Int.reduceLT, Int.reduceLE, Int.reduceEq, Nat.lt_irrefl, Nat.zero_lt_succ, Nat.reduceMul, Int.reduceNeg, Bool.false_eq_true, if_true, if_false, Nat.zero_add, nlit, eq_self, decide_true, decide_false, reduceIte, Bool.or_false, Bool.false_or, Bool.true_or, Bool.or_true, Bool.and_true, Bool.true_and, Bool.and_false, Bool.false_and, Bool.not_true, Bool.not_false, List.all_cons, List.all_nil, List.any_cons, List.any_nil] at this ⊢
    exact this
end
end My

/-! The program reads a rule. -/
namespace My
open PySem PySem.Spec PyProof.Rows L2
def digitsS : Str := "0123456789"
theorem dig_eq {i : Int} (h : 0 ≤ i ∧ i < 10) : dig i = ⟨#[48 + i.toNat]⟩ := TL.ext_tl (by rw [tl_dig h])
theorem find_dig {i : Int} (h : 0 ≤ i ∧ i < 10) : Txt.find digitsS (dig i) = i := by
  rw [dig_eq h]
  obtain ⟨n, rfl⟩ := Int.eq_ofNat_of_zero_le h.1
  have h2 : n < 10 := by omega
  have : ∀ n : Nat, n < 10 → Txt.find digitsS ⟨#[48 + n]⟩ = (n : Int) := by decide +kernel
  exact this n h2
def findD' (d : D) : D := match d with
  | .str s => .int (Txt.find digitsS s)
  | d => d
theorem map_findD {xs : List Int} (h : Sm10 xs) : ((xs.map dig).map D.str).map findD' = xs.map .int := by
  rw [List.map_map, List.map_map]
  exact List.map_congr_left fun i hi => by
    show D.int (Txt.find digitsS (dig i)) = .int i
    rw [find_dig (h i hi)]
theorem joinL_nil : ∀ ps : List (List Nat), TL.joinL [] ps = ps.flatten
  | [] => rfl
  | [p] => by simp [TL.joinL]
  | p :: q :: r => by
    have := joinL_nil (q :: r)
    simp only [TL.joinL, List.nil_append, this, List.flatten_cons]
theorem tl_empty : TL.tl ("" : Str) = [] := by decide +kernel
theorem tl_glued {xs : List Int} (h : Sm10 xs) : TL.tl (glued xs) = xs.map fun i => 48 + i.toNat := by
  unfold glued
  rw [TL.tl_join, tl_empty, joinL_nil, List.map_map]
  induction xs with
  | nil => rfl
  | cons x xs ih =>
    have e1 : (TL.tl ∘ dig) x = [48 + x.toNat] := tl_dig (h x List.mem_cons_self)
    have := ih fun y hy => h y (List.mem_cons_of_mem _ hy)
    simp only [List.map_cons, List.flatten_cons, e1, this]
    rfl
theorem signs_glued {xs : List Int} (h : Sm10 xs) : signsD (glued xs) = (xs.map dig).map .str := by
  unfold signsD
  have e : (glued xs).cps.toList = TL.tl (glued xs) := rfl
  rw [e, tl_glued h, List.map_map, List.map_map]
  exact List.map_congr_left fun i hi => by
    show D.str ⟨#[48 + i.toNat]⟩ = .str (dig i)
    rw [dig_eq (h i hi)]
theorem split_digs {xs : List Int} (h : Sm10 xs) (hx : xs ≠ []) : Txt.split (Str.join "," (xs.map dig)) "," = xs.map dig := by
  rw [← TL.join_eq]
  exact TL.split_join (s := 44) (S := []) (by decide +kernel) (by decide +kernel) (by simpa using hx) fun p hp => by
    obtain ⟨i, hi, rfl⟩ := List.mem_map.mp hp
    rw [tl_dig (h i hi)]
    simp; omega
theorem split_glued {W : Wy} (ok : W.Ok) (hx : W.kinds ≠ []) : Txt.split (Str.join "," (W.kinds.map glued)) "," = W.kinds.map glued := by
  rw [← TL.join_eq]
  exact TL.split_join (s := 44) (S := []) (by decide +kernel) (by decide +kernel) (by simpa using hx) fun p hp => by
    obtain ⟨kd, hk, rfl⟩ := List.mem_map.mp hp
    rw [tl_glued (ok.kd10 kd hk).1]
    simp; intro a _; omega
theorem ne_dash {x : Str} {c : Nat} {r : List Nat} (h : TL.tl x = c :: r) (hc : 48 ≤ c) : decide (x = "-") = false := by
  refine decide_eq_false fun e => ?_
  rw [e] at h
  have : TL.tl ("-" : Str) = [45] := by decide +kernel
  rw [this] at h
  injection h with h1
  omega
theorem joinL_head {S p : List Nat} {ps : List (List Nat)} {c : Nat} {r : List Nat} (h : p = c :: r) : ∃ r', TL.joinL S (p :: ps) = c :: r' := by
  subst h
  cases ps with
  | nil => exact ⟨r, rfl⟩
  | cons q t => exact ⟨_, rfl⟩
section
variable {ds : List Df} {con : Str → Option D} {fuel k : Nat} {S : Store} {W : Wy}
theorem read_digit_ok (h : FD ds Lib.df_read_digit) (c : con "DIGITS" = some (.str digitsS)) {i : Int} (hi : 0 ≤ i ∧ i < 10) : Pu (callD ds con fuel (k + 1) "read_digit" [.str (dig i)]) S (.int i) := by
  refine pu_call h rfl rfl ?_
  simp only [Lib.df_read_digit, Lib.b_read_digit]
  simp only [wp_cons, wp_nil, wx_asgi, ev_lit, ev_var, ev_gl, ev_tup, ev_lst, ev_bin, ev_neg, ev_cmp, ev_chain, ev_and, ev_or, ev_not, ev_ifx, ev_idx, ev_slc, ev_call, ev_blt, ev_isi, ev_isis, ev_mth, ev_lc, ei_val, ei_rng1, ei_rng2, ei_zip, ei_enum, wx_addL, ev_fmt, ev_fstr, ev_tupRg1, ev_tupRg2, wp_fmtS, wp_fmtI, wp_fstr, wp_tupRg, wx_reverse, wp_neg, wp_rng1, wp_rng2, evEs, ev_asg, ev_ex, ev_ret, ev_retn, ev_iff, ev_for, ev_pass, ev_brk, ev_cont, ev_nope, wp_no, evT, evAnd, evOr, evTA, evTO, evP, evC, wp_bnd, wp_ret, wp_opt, wp_see, wp_add, wp_sub, wx_mul, wx_fdiv, wx_mod, wx_addS, wx_addT, wx_idxT, wx_idxL, wx_int, wx_abs, wx_lenL, wx_lenT, wx_lenS, wx_strI, wx_tupT, wx_tupL, wx_listT, wx_listL, wx_listS, wx_slcT, wx_slcL, wx_append, wx_pop0, wx_joinL, wx_split, wx_find, wp_newL, wp_setL, then_nx, then_rt, then_bk, then_ct, fin_rt, fin_nx, asg_name, asg_tup, asgs_nil, asgs_cons, le_line, lt_line, cop_eq, cop_ne, cop_lt, cop_le, cop_gt, cop_ge, cop_in, cop_notin, cop_is0, cop_is1, cop_is2, cop_is3, cop_is4, cop_is5, eq_int, eq_bl, eq_str, tru_non, tru_bl, tru_int, tru_tup, tru_ref, tn_non, tn_bl, tn_int, tn_str, tn_tup, tn_ref, isTn, mt_append, mt_pop0, mt_pop, mt_reverse, mt_clear, mt_join, mt_split, mt_find, mt_startswith, mt_partition, wk_tup, wk_str, wk_ref,
    rdL_cons0, rdL_ro0, rdL_succ, rdM_cons0, rdM_succ, List.map_cons, List.map_nil, List.replicate_succ, List.replicate_zero, List.cons_append, List.nil_append, List.append_nil, List.append_assoc, rdL_at, rdL_at0, rdM_at, rdM_at0, set_at, set_at0, List.length_append, Nat.add_assoc, List.getElem?_cons_succ, List.getElem?_cons_zero, List.set_cons_succ, List.set_cons_zero, Nat.reduceSub, Nat.reduceAdd, Option.map_some, Option.bind_some, Option.some.injEq, exists_eq_left', exists_eq_left, exists_eq', exists_and_left, exists_const, D.int.injEq, D.ref.injEq, D.str.injEq, D.bl.injEq, D.tup.injEq, true_and, and_true, List.length_cons, List.length_nil, atI_lit, ixN_lit, Nat.reduceLT, Nat.reduceLeDiff, Nat.reduceEqDiff, Int.reduceLT, Int.reduceLE, Int.reduceEq, Nat.lt_irrefl, Nat.zero_lt_succ, Nat.reduceMul, Int.reduceNeg, Bool.false_eq_true, if_true, if_false, Nat.zero_add, nlit, eq_self, decide_true, decide_false, reduceIte, Bool.or_false, Bool.false_or, Bool.true_or, Bool.or_true, Bool.and_true, Bool.true_and, Bool.and_false, Bool.false_and, Bool.not_true, Bool.not_false, List.all_cons, List.all_nil, List.any_cons, List.any_nil, len_dig hi, c, find_dig hi]
  exact .refl _
/-- [read_digit(text) for text in texts] -/
theorem comp_digits (h : FD ds Lib.df_read_digit) (c : con "DIGITS" = some (.str digitsS)) {n : Nat} {xs : List Int} {nm : Str} {ρ : Env} {v : Nat} (hv : v < ρ.length) (hx : Sm10 xs) (hl : xs.length ≤ 1000) (hr : rdL S n = some ((xs.map dig).map .str)) {Q : D → Store → Prop}
    (q : ∀ S1, Gr S S1 → Q (.ref S1.length) (S1 ++ [.lst (xs.map .int)])) :
    Wp (compF (wkList n ((xs.map dig).map D.str).length) (itemF ⟨callD ds con fuel (k + 1), con, fuel⟩ (.call "read_digit" (.cons (.var v) .nil)) (.name v) .nil [(nm, v)] ρ) (wkList n ((xs.map dig).map D.str).length).n 0 []) S Q := by
  refine comp_list (g := findD') hr (by simp; exact Nat.le_trans hl (by decide)) (fun x hx' S1 => ?_) fun S1 g => by rw [map_findD hx]; exact q S1 g
  rw [List.map_map] at hx'
  obtain ⟨i, hi, rfl⟩ := List.mem_map.mp hx'
  have ev : ((ρ.set v none).set v (some (D.str (dig i))))[v]? = some (some (.str (dig i))) := by
    rw [List.getElem?_set_self (by simpa using hv)]
  rw [wx_itemF]
  simp only [wp_cons, wp_nil, wx_asgi, ev_lit, ev_var, ev_gl, ev_tup, ev_lst, ev_bin, ev_neg, ev_cmp, ev_chain, ev_and, ev_or, ev_not, ev_ifx, ev_idx, ev_slc, ev_call, ev_blt, ev_isi, ev_isis, ev_mth, ev_lc, ei_val, ei_rng1, ei_rng2, ei_zip, ei_enum, wx_addL, ev_fmt, ev_fstr, ev_tupRg1, ev_tupRg2, wp_fmtS, wp_fmtI, wp_fstr, wp_tupRg, wx_reverse, wp_neg, wp_rng1, wp_rng2, evEs, ev_asg, ev_ex, ev_ret, ev_retn, ev_iff, ev_for, ev_pass, ev_brk, ev_cont, ev_nope, wp_no, evT, evAnd, evOr, evTA, evTO, evP, evC, wp_bnd, wp_ret, wp_opt, wp_see, wp_add, wp_sub, wx_mul, wx_fdiv, wx_mod, wx_addS, wx_addT, wx_idxT, wx_idxL, wx_int, wx_abs, wx_lenL, wx_lenT, wx_lenS, wx_strI, wx_tupT, wx_tupL, wx_listT, wx_listL, wx_listS, wx_slcT, wx_slcL, wx_append, wx_pop0, wx_joinL, wx_split, wx_find, wp_newL, wp_setL, then_nx, then_rt, then_bk, then_ct, fin_rt, fin_nx, asg_name, asg_tup, asgs_nil, asgs_cons, le_line, lt_line, cop_eq, cop_ne, cop_lt, cop_le, cop_gt, cop_ge, cop_in, cop_notin, cop_is0, cop_is1, cop_is2, cop_is3, cop_is4, cop_is5, eq_int, eq_bl, eq_str, tru_non, tru_bl, tru_int, tru_tup, tru_ref, tn_non, tn_bl, tn_int, tn_str, tn_tup, tn_ref, isTn, mt_append, mt_pop0, mt_pop, mt_reverse, mt_clear, mt_join, mt_split, mt_find, mt_startswith, mt_partition, wk_tup, wk_str, wk_ref,
    rdL_cons0, rdL_ro0, rdL_succ, rdM_cons0, rdM_succ, List.map_cons, List.map_nil, List.replicate_succ, List.replicate_zero, List.cons_append, List.nil_append, List.append_nil, List.append_assoc, rdL_at, rdL_at0, rdM_at, rdM_at0, set_at, set_at0, List.length_append, Nat.add_assoc, List.getElem?_cons_succ, List.getElem?_cons_zero, List.set_cons_succ, List.set_cons_zero, Nat.reduceSub, Nat.reduceAdd, Option.map_some, Option.bind_some, Option.some.injEq, exists_eq_left', exists_eq_left, exists_eq', exists_and_left, exists_const, D.int.injEq, D.ref.injEq, D.str.injEq, D.bl.injEq, D.tup.injEq, true_and, and_true, List.length_cons, List.length_nil, atI_lit, ixN_lit, Nat.reduceLT, Nat.reduceLeDiff, Nat.reduceEqDiff, Int.reduceLT, Int.reduceLE, Int.reduceEq, Nat.lt_irrefl, Nat.zero_lt_succ, Nat.reduceMul, Int.reduceNeg, Bool.false_eq_true, if_true, if_false, Nat.zero_add, nlit, eq_self, decide_true, decide_false, reduceIte, Bool.or_false, Bool.false_or, Bool.true_or, Bool.or_true, Bool.and_true, Bool.true_and, Bool.and_false, Bool.false_and, Bool.not_true, Bool.not_false, List.all_cons, List.all_nil, List.any_cons, List.any_nil, wipeD, ev, Function.comp]
  refine ⟨fun _ => ?_, fun z => by cases z⟩
  refine (read_digit_ok h c (hx i hi)).to fun S2 g2 => ?_
  refine ⟨?_, g2⟩
  show _ = D.int (Txt.find digitsS (dig i))
  rw [find_dig (hx i hi)]
theorem read_digits_ok (h0 : FD ds Lib.df_read_digits) (h : FD ds Lib.df_read_digit) (h3 : FD ds Lib.df_is_ascending) (h1 : FD ds Lib.df_is_integer) (c : con "DIGITS" = some (.str digitsS)) {n : Nat} {xs : List Int} (hx : Asc 10 xs) (hr : rdL S n = some ((xs.map dig).map .str)) :
    Pu (callD ds con fuel (k + 3) "read_digits" [.ref n]) S (tupI xs) := by
  refine pu_call h0 rfl rfl ?_
  simp only [Lib.df_read_digits, Lib.b_read_digits]
  simp only [wp_cons, wp_nil, wx_asgi, ev_lit, ev_var, ev_gl, ev_tup, ev_lst, ev_bin, ev_neg, ev_cmp, ev_chain, ev_and, ev_or, ev_not, ev_ifx, ev_idx, ev_slc, ev_call, ev_blt, ev_isi, ev_isis, ev_mth, ev_lc, ei_val, ei_rng1, ei_rng2, ei_zip, ei_enum, wx_addL, ev_fmt, ev_fstr, ev_tupRg1, ev_tupRg2, wp_fmtS, wp_fmtI, wp_fstr, wp_tupRg, wx_reverse, wp_neg, wp_rng1, wp_rng2, evEs, ev_asg, ev_ex, ev_ret, ev_retn, ev_iff, ev_for, ev_pass, ev_brk, ev_cont, ev_nope, wp_no, evT, evAnd, evOr, evTA, evTO, evP, evC, wp_bnd, wp_ret, wp_opt, wp_see, wp_add, wp_sub, wx_mul, wx_fdiv, wx_mod, wx_addS, wx_addT, wx_idxT, wx_idxL, wx_int, wx_abs, wx_lenL, wx_lenT, wx_lenS, wx_strI, wx_tupT, wx_tupL, wx_listT, wx_listL, wx_listS, wx_slcT, wx_slcL, wx_append, wx_pop0, wx_joinL, wx_split, wx_find, wp_newL, wp_setL, then_nx, then_rt, then_bk, then_ct, fin_rt, fin_nx, asg_name, asg_tup, asgs_nil, asgs_cons, le_line, lt_line, cop_eq, cop_ne, cop_lt, cop_le, cop_gt, cop_ge, cop_in, cop_notin, cop_is0, cop_is1, cop_is2, cop_is3, cop_is4, cop_is5, eq_int, eq_bl, eq_str, tru_non, tru_bl, tru_int, tru_tup, tru_ref, tn_non, tn_bl, tn_int, tn_str, tn_tup, tn_ref, isTn, mt_append, mt_pop0, mt_pop, mt_reverse, mt_clear, mt_join, mt_split, mt_find, mt_startswith, mt_partition, wk_tup, wk_str, wk_ref,
    rdL_cons0, rdL_ro0, rdL_succ, rdM_cons0, rdM_succ, List.map_cons, List.map_nil, List.replicate_succ, List.replicate_zero, List.cons_append, List.nil_append, List.append_nil, List.append_assoc, rdL_at, rdL_at0, rdM_at, rdM_at0, set_at, set_at0, List.length_append, Nat.add_assoc, List.getElem?_cons_succ, List.getElem?_cons_zero, List.set_cons_succ, List.set_cons_zero, Nat.reduceSub, Nat.reduceAdd, Option.map_some, Option.bind_some, Option.some.injEq, exists_eq_left', exists_eq_left, exists_eq', exists_and_left, exists_const, D.int.injEq, D.ref.injEq, D.str.injEq, D.bl.injEq, D.tup.injEq, true_and, and_true, List.length_cons, List.length_nil, atI_lit, ixN_lit, Nat.reduceLT, Nat.reduceLeDiff, Nat.reduceEqDiff, Int.reduceLT, Int.reduceLE, Int.reduceEq, Nat.lt_irrefl, Nat.zero_lt_succ, Nat.reduceMul, Int.reduceNeg, Bool.false_eq_true, if_true, if_false, Nat.zero_add, nlit, eq_self, decide_true, decide_false, reduceIte, Bool.or_false, Bool.false_or, Bool.true_or, Bool.or_true, Bool.and_true, Bool.true_and, Bool.and_false, Bool.false_and, Bool.not_true, Bool.not_false, List.all_cons, List.all_nil, List.any_cons, List.any_nil, hr]
  refine comp_digits (k := k + 1) h c (by simp) (hx.sm (by omega)) (by have := hx.len; omega) hr fun S1 g1 => ?_
  simp only [wp_cons, wp_nil, wx_asgi, ev_lit, ev_var, ev_gl, ev_tup, ev_lst, ev_bin, ev_neg, ev_cmp, ev_chain, ev_and, ev_or, ev_not, ev_ifx, ev_idx, ev_slc, ev_call, ev_blt, ev_isi, ev_isis, ev_mth, ev_lc, ei_val, ei_rng1, ei_rng2, ei_zip, ei_enum, wx_addL, ev_fmt, ev_fstr, ev_tupRg1, ev_tupRg2, wp_fmtS, wp_fmtI, wp_fstr, wp_tupRg, wx_reverse, wp_neg, wp_rng1, wp_rng2, evEs, ev_asg, ev_ex, ev_ret, ev_retn, ev_iff, ev_for, ev_pass, ev_brk, ev_cont, ev_nope, wp_no, evT, evAnd, evOr, evTA, evTO, evP, evC, wp_bnd, wp_ret, wp_opt, wp_see, wp_add, wp_sub, wx_mul, wx_fdiv, wx_mod, wx_addS, wx_addT, wx_idxT, wx_idxL, wx_int, wx_abs, wx_lenL, wx_lenT, wx_lenS, wx_strI, wx_tupT, wx_tupL, wx_listT, wx_listL, wx_listS, wx_slcT, wx_slcL, wx_append, wx_pop0, wx_joinL, wx_split, wx_find, wp_newL, wp_setL, then_nx, then_rt, then_bk, then_ct, fin_rt, fin_nx, asg_name, asg_tup, asgs_nil, asgs_cons, le_line, lt_line, cop_eq, cop_ne, cop_lt, cop_le, cop_gt, cop_ge, cop_in, cop_notin, cop_is0, cop_is1, cop_is2, cop_is3, cop_is4, cop_is5, eq_int, eq_bl, eq_str, tru_non, tru_bl, tru_int, tru_tup, tru_ref, tn_non, tn_bl, tn_int, tn_str, tn_tup, tn_ref, isTn, mt_append, mt_pop0, mt_pop, mt_reverse, mt_clear, mt_join, mt_split, mt_find, mt_startswith, mt_partition, wk_tup, wk_str, wk_ref,
    rdL_cons0, rdL_ro0, rdL_succ, rdM_cons0, rdM_succ, List.map_cons, List.map_nil, List.replicate_succ, List.replicate_zero, List.cons_append, List.nil_append, List.append_nil, List.append_assoc, rdL_at, rdL_at0, rdM_at, rdM_at0, set_at, set_at0, List.length_append, Nat.add_assoc, List.getElem?_cons_succ, List.getElem?_cons_zero, List.set_cons_succ, List.set_cons_zero, Nat.reduceSub, Nat.reduceAdd, Option.map_some, Option.bind_some, Option.some.injEq, exists_eq_left', exists_eq_left, exists_eq', exists_and_left, exists_const, D.int.injEq, D.ref.injEq, D.str.injEq, D.bl.injEq, D.tup.injEq, true_and, and_true, List.length_cons, List.length_nil, atI_lit, ixN_lit, Nat.reduceLT, Nat.reduceLeDiff, Nat.reduceEqDiff, Int.reduceLT, Int.reduceLE, Int.reduceEq, Nat.lt_irrefl, Nat.zero_lt_succ, Nat.reduceMul, Int.reduceNeg, Bool.false_eq_true, if_true, if_false, Nat.zero_add, nlit, eq_self, decide_true, decide_false, reduceIte, Bool.or_false, Bool.false_or, Bool.true_or, Bool.or_true, Bool.and_true, Bool.true_and, Bool.and_false, Bool.false_and, Bool.not_true, Bool.not_false, List.all_cons, List.all_nil, List.any_cons, List.any_nil]
  refine (is_ascending_ok h3 h1 hx).to fun S2 g2 => ?_
  simp only [wp_cons, wp_nil, wx_asgi, ev_lit, ev_var, ev_gl, ev_tup, ev_lst, ev_bin, ev_neg, ev_cmp, ev_chain, ev_and, ev_or, ev_not, ev_ifx, ev_idx, ev_slc, ev_call, ev_blt, ev_isi, ev_isis, ev_mth, ev_lc, ei_val, ei_rng1, ei_rng2, ei_zip, ei_enum, wx_addL, ev_fmt, ev_fstr, ev_tupRg1, ev_tupRg2, wp_fmtS, wp_fmtI, wp_fstr, wp_tupRg, wx_reverse, wp_neg, wp_rng1, wp_rng2, evEs, ev_asg, ev_ex, ev_ret, ev_retn, ev_iff, ev_for, ev_pass, ev_brk, ev_cont, ev_nope, wp_no, evT, evAnd, evOr, evTA, evTO, evP, evC, wp_bnd, wp_ret, wp_opt, wp_see, wp_add, wp_sub, wx_mul, wx_fdiv, wx_mod, wx_addS, wx_addT, wx_idxT, wx_idxL, wx_int, wx_abs, wx_lenL, wx_lenT, wx_lenS, wx_strI, wx_tupT, wx_tupL, wx_listT, wx_listL, wx_listS, wx_slcT, wx_slcL, wx_append, wx_pop0, wx_joinL, wx_split, wx_find, wp_newL, wp_setL, then_nx, then_rt, then_bk, then_ct, fin_rt, fin_nx, asg_name, asg_tup, asgs_nil, asgs_cons, le_line, lt_line, cop_eq, cop_ne, cop_lt, cop_le, cop_gt, cop_ge, cop_in, cop_notin, cop_is0, cop_is1, cop_is2, cop_is3, cop_is4, cop_is5, eq_int, eq_bl, eq_str, tru_non, tru_bl, tru_int, tru_tup, tru_ref, tn_non, tn_bl, tn_int, tn_str, tn_tup, tn_ref, isTn, mt_append, mt_pop0, mt_pop, mt_reverse, mt_clear, mt_join, mt_split, mt_find, mt_startswith, mt_partition, wk_tup, wk_str, wk_ref,
    rdL_cons0, rdL_ro0, rdL_succ, rdM_cons0, rdM_succ, List.map_cons, List.map_nil, List.replicate_succ, List.replicate_zero, List.cons_append, List.nil_append, List.append_nil, List.append_assoc, rdL_at, rdL_at0, rdM_at, rdM_at0, set_at, set_at0, List.length_append, Nat.add_assoc, List.getElem?_cons_succ, List.getElem?_cons_zero, List.set_cons_succ, List.set_cons_zero, Nat.reduceSub, Nat.reduceAdd, Option.map_some, Option.bind_some, Option.some.injEq, exists_eq_left', exists_eq_left, exists_eq', exists_and_left, exists_const, D.int.injEq, D.ref.injEq, D.str.injEq, D.bl.injEq, D.tup.injEq, true_and, and_true, List.length_cons, List.length_nil, atI_lit, ixN_lit, Nat.reduceLT, Nat.reduceLeDiff, Nat.reduceEqDiff, Int.reduceLT, Int.reduceLE, Int.reduceEq, Nat.lt_irrefl, Nat.zero_lt_succ, Nat.reduceMul, Int.reduceNeg, Bool.false_eq_true, if_true, if_false, Nat.zero_add, nlit, eq_self, decide_true, decide_false, reduceIte, Bool.or_false, Bool.false_or, Bool.true_or, Bool.or_true, Bool.and_true, Bool.true_and, Bool.and_false, Bool.false_and, Bool.not_true, Bool.not_false, List.all_cons, List.all_nil, List.any_cons, List.any_nil]
  exact ⟨rfl, (g1.ap _).trans g2⟩
theorem read_numbers_ok (hn : FD ds Lib.df_read_numbers) (h0 : FD ds Lib.df_read_digits) (h : FD ds Lib.df_read_digit) (h3 : FD ds Lib.df_is_ascending) (h1 : FD ds Lib.df_is_integer) (c : con "DIGITS" = some (.str digitsS)) {xs : List Int} (hx : Asc 10 xs) :
    Pu (callD ds con fuel (k + 4) "read_numbers" [.str (commas xs)]) S (tupI xs) := by
  refine pu_call hn rfl rfl ?_
  simp only [Lib.df_read_numbers, Lib.b_read_numbers]
  have hs : Sm10 xs := hx.sm (by omega)
  by_cases he : xs = []
  · subst he
    have e : decide (commas [] = ("-" : Str)) = true := by decide +kernel
    simp only [wp_cons, wp_nil, wx_asgi, ev_lit, ev_var, ev_gl, ev_tup, ev_lst, ev_bin, ev_neg, ev_cmp, ev_chain, ev_and, ev_or, ev_not, ev_ifx, ev_idx, ev_slc, ev_call, ev_blt, ev_isi, ev_isis, ev_mth, ev_lc, ei_val, ei_rng1, ei_rng2, ei_zip, ei_enum, wx_addL, ev_fmt, ev_fstr, ev_tupRg1, ev_tupRg2, wp_fmtS, wp_fmtI, wp_fstr, wp_tupRg, wx_reverse, wp_neg, wp_rng1, wp_rng2, evEs, ev_asg, ev_ex, ev_ret, ev_retn, ev_iff, ev_for, ev_pass, ev_brk, ev_cont, ev_nope, wp_no, evT, evAnd, evOr, evTA, evTO, evP, evC, wp_bnd, wp_ret, wp_opt, wp_see, wp_add, wp_sub, wx_mul, wx_fdiv, wx_mod, wx_addS, wx_addT, wx_idxT, wx_idxL, wx_int, wx_abs, wx_lenL, wx_lenT, wx_lenS, wx_strI, wx_tupT, wx_tupL, wx_listT, wx_listL, wx_listS, wx_slcT, wx_slcL, wx_append, wx_pop0, wx_joinL, wx_split, wx_find, wp_newL, wp_setL, then_nx, then_rt, then_bk, then_ct, fin_rt, fin_nx, asg_name, asg_tup, asgs_nil, asgs_cons, le_line, lt_line, cop_eq, cop_ne, cop_lt, cop_le, cop_gt, cop_ge, cop_in, cop_notin, cop_is0, cop_is1, cop_is2, cop_is3, cop_is4, cop_is5, eq_int, eq_bl, eq_str, tru_non, tru_bl, tru_int, tru_tup, tru_ref, tn_non, tn_bl, tn_int, tn_str, tn_tup, tn_ref, isTn, mt_append, mt_pop0, mt_pop, mt_reverse, mt_clear, mt_join, mt_split, mt_find, mt_startswith, mt_partition, wk_tup, wk_str, wk_ref,
    rdL_cons0, rdL_ro0, rdL_succ, rdM_cons0, rdM_succ, List.map_cons, List.map_nil, List.replicate_succ, List.replicate_zero, List.cons_append, List.nil_append, List.append_nil, List.append_assoc, rdL_at, rdL_at0, rdM_at, rdM_at0, set_at, set_at0, List.length_append, Nat.add_assoc, List.getElem?_cons_succ, List.getElem?_cons_zero, List.set_cons_succ, List.set_cons_zero, Nat.reduceSub, Nat.reduceAdd, Option.map_some, Option.bind_some, Option.some.injEq, exists_eq_left', exists_eq_left, exists_eq', exists_and_left, exists_const, D.int.injEq, D.ref.injEq, D.str.injEq, D.bl.injEq, D.tup.injEq, true_and, and_true, List.length_cons, List.length_nil, atI_lit, ixN_lit, Nat.reduceLT, Nat.reduceLeDiff, Nat.reduceEqDiff, Int.reduceLT, Int.reduceLE, Int.reduceEq, Nat.lt_irrefl, Nat.zero_lt_succ, Nat.reduceMul, Int.reduceNeg, Bool.false_eq_true, if_true, if_false, Nat.zero_add, nlit, eq_self, decide_true, decide_false, reduceIte, Bool.or_false, Bool.false_or, Bool.true_or, Bool.or_true, Bool.and_true, Bool.true_and, Bool.and_false, Bool.false_and, Bool.not_true, Bool.not_false, List.all_cons, List.all_nil, List.any_cons, List.any_nil, e]
    exact ⟨rfl, .refl _⟩
  · have ec : commas xs = Str.join "," (xs.map dig) := by unfold commas; rw [if_neg he]
    have e : decide (commas xs = ("-" : Str)) = false := by
      rw [ec]
      cases xs with
      | nil => exact (he rfl).elim
      | cons x xs =>
        obtain ⟨r, hr⟩ := joinL_head (S := TL.tl ",") (ps := (xs.map dig).map TL.tl) (tl_dig (hs x List.mem_cons_self))
        refine ne_dash (c := 48 + x.toNat) (r := r) ?_ (by omega)
        rw [TL.tl_join]
        simpa using hr
    have hlen := commas_len hs
    have := hx.len
    simp only [wp_cons, wp_nil, wx_asgi, ev_lit, ev_var, ev_gl, ev_tup, ev_lst, ev_bin, ev_neg, ev_cmp, ev_chain, ev_and, ev_or, ev_not, ev_ifx, ev_idx, ev_slc, ev_call, ev_blt, ev_isi, ev_isis, ev_mth, ev_lc, ei_val, ei_rng1, ei_rng2, ei_zip, ei_enum, wx_addL, ev_fmt, ev_fstr, ev_tupRg1, ev_tupRg2, wp_fmtS, wp_fmtI, wp_fstr, wp_tupRg, wx_reverse, wp_neg, wp_rng1, wp_rng2, evEs, ev_asg, ev_ex, ev_ret, ev_retn, ev_iff, ev_for, ev_pass, ev_brk, ev_cont, ev_nope, wp_no, evT, evAnd, evOr, evTA, evTO, evP, evC, wp_bnd, wp_ret, wp_opt, wp_see, wp_add, wp_sub, wx_mul, wx_fdiv, wx_mod, wx_addS, wx_addT, wx_idxT, wx_idxL, wx_int, wx_abs, wx_lenL, wx_lenT, wx_lenS, wx_strI, wx_tupT, wx_tupL, wx_listT, wx_listL, wx_listS, wx_slcT, wx_slcL, wx_append, wx_pop0, wx_joinL, wx_split, wx_find, wp_newL, wp_setL, then_nx, then_rt, then_bk, then_ct, fin_rt, fin_nx, asg_name, asg_tup, asgs_nil, asgs_cons, le_line, lt_line, cop_eq, cop_ne, cop_lt, cop_le, cop_gt, cop_ge, cop_in, cop_notin, cop_is0, cop_is1, cop_is2, cop_is3, cop_is4, cop_is5, eq_int, eq_bl, eq_str, tru_non, tru_bl, tru_int, tru_tup, tru_ref, tn_non, tn_bl, tn_int, tn_str, tn_tup, tn_ref, isTn, mt_append, mt_pop0, mt_pop, mt_reverse, mt_clear, mt_join, mt_split, mt_find, mt_startswith, mt_partition, wk_tup, wk_str, wk_ref,
    rdL_cons0, rdL_ro0, rdL_succ, rdM_cons0, rdM_succ, List.map_cons, List.map_nil, List.replicate_succ, List.replicate_zero, List.cons_append, List.nil_append, List.append_nil, List.append_assoc, rdL_at, rdL_at0, rdM_at, rdM_at0, set_at, set_at0, List.length_append, Nat.add_assoc, List.getElem?_cons_succ, List.getElem?_cons_zero, List.set_cons_succ, List.set_cons_zero, Nat.reduceSub, Nat.reduceAdd, Option.map_some, Option.bind_some, Option.some.injEq, exists_eq_left', exists_eq_left, exists_eq', exists_and_left, exists_const, D.int.injEq, D.ref.injEq, D.str.injEq, D.bl.injEq, D.tup.injEq, true_and, and_true, List.length_cons, List.length_nil, atI_lit, ixN_lit, Nat.reduceLT, Nat.reduceLeDiff, Nat.reduceEqDiff, Int.reduceLT, Int.reduceLE, Int.reduceEq, Nat.lt_irrefl, Nat.zero_lt_succ, Nat.reduceMul, Int.reduceNeg, Bool.false_eq_true, if_true, if_false, Nat.zero_add, nlit, eq_self, decide_true, decide_false, reduceIte, Bool.or_false, Bool.false_or, Bool.true_or, Bool.or_true, Bool.and_true, Bool.true_and, Bool.and_false, Bool.false_and, Bool.not_true, Bool.not_false, List.all_cons, List.all_nil, List.any_cons, List.any_nil, e]
    refine ⟨⟨by decide +kernel, Nat.le_trans (by omega : _ ≤ 1000) (by decide)⟩, ?_⟩
    rw [ec, split_digs hs he]
    refine (read_digits_ok h0 h h3 h1 c hx rdL_new).to fun S1 g => ?_
    exact ⟨rfl, (Gr.app _).trans g⟩
end
end My

/-! The program reads a rule: the whole. -/
namespace My
open PySem PySem.Spec PyProof.Rows L2
structure FQ (ds : List Df) (con : Str → Option D) : Prop extends FR ds con where
  read_rule : FD ds Lib.df_read_rule
  kinds : FD ds Lib.df_read_kinds
  rnumbers : FD ds Lib.df_read_numbers
  rdigits : FD ds Lib.df_read_digits
  rdigit : FD ds Lib.df_read_digit
  digits : con "DIGITS" = some (.str digitsS)
section
variable {ds : List Df} {con : Str → Option D} {fuel k : Nat} {S : Store} {W : Wy}
theorem read_kinds_ok (h : FQ ds con) (ok : W.Ok) : Pu (callD ds con fuel (k + 4) "read_kinds" [.str (kindsText W.kinds)]) S (.tup (W.kinds.map tupI)) := by
  refine pu_call h.kinds rfl rfl ?_
  simp only [Lib.df_read_kinds, Lib.b_read_kinds]
  by_cases he : W.kinds = []
  · have e : decide (kindsText W.kinds = ("-" : Str)) = true := by rw [he]; decide +kernel
    simp only [wp_cons, wp_nil, wx_asgi, ev_lit, ev_var, ev_gl, ev_tup, ev_lst, ev_bin, ev_neg, ev_cmp, ev_chain, ev_and, ev_or, ev_not, ev_ifx, ev_idx, ev_slc, ev_call, ev_blt, ev_isi, ev_isis, ev_mth, ev_lc, ei_val, ei_rng1, ei_rng2, ei_zip, ei_enum, wx_addL, ev_fmt, ev_fstr, ev_tupRg1, ev_tupRg2, wp_fmtS, wp_fmtI, wp_fstr, wp_tupRg, wx_reverse, wp_neg, wp_rng1, wp_rng2, evEs, ev_asg, ev_ex, ev_ret, ev_retn, ev_iff, ev_for, ev_pass, ev_brk, ev_cont, ev_nope, wp_no, evT, evAnd, evOr, evTA, evTO, evP, evC, wp_bnd, wp_ret, wp_opt, wp_see, wp_add, wp_sub, wx_mul, wx_fdiv, wx_mod, wx_addS, wx_addT, wx_idxT, wx_idxL, wx_int, wx_abs, wx_lenL, wx_lenT, wx_lenS, wx_strI, wx_tupT, wx_tupL, wx_listT, wx_listL, wx_listS, wx_slcT, wx_slcL, wx_append, wx_pop0, wx_joinL, wx_split, wx_find, wp_newL, wp_setL, then_nx, then_rt, then_bk, then_ct, fin_rt, fin_nx, asg_name, asg_tup, asgs_nil, asgs_cons, le_line, lt_line, cop_eq, cop_ne, cop_lt, cop_le, cop_gt, cop_ge, cop_in, cop_notin, cop_is0, cop_is1, cop_is2, cop_is3, cop_is4, cop_is5, eq_int, eq_bl, eq_str, tru_non, tru_bl, tru_int, tru_tup, tru_ref, tn_non, tn_bl, tn_int, tn_str, tn_tup, tn_ref, isTn, mt_append, mt_pop0, mt_pop, mt_reverse, mt_clear, mt_join, mt_split, mt_find, mt_startswith, mt_partition, wk_tup, wk_str, wk_ref,
    rdL_cons0, rdL_ro0, rdL_succ, rdM_cons0, rdM_succ, List.map_cons, List.map_nil, List.replicate_succ, List.replicate_zero, List.cons_append, List.nil_append, List.append_nil, List.append_assoc, rdL_at, rdL_at0, rdM_at, rdM_at0, set_at, set_at0, List.length_append, Nat.add_assoc, List.getElem?_cons_succ, List.getElem?_cons_zero, List.set_cons_succ, List.set_cons_zero, Nat.reduceSub, Nat.reduceAdd, Option.map_some, Option.bind_some, Option.some.injEq, exists_eq_left', exists_eq_left, exists_eq', exists_and_left, exists_const, D.int.injEq, D.ref.injEq, D.str.injEq, D.bl.injEq, D.tup.injEq, true_and, and_true, List.length_cons, List.length_nil, atI_lit, ixN_lit, Nat.reduceLT, Nat.reduceLeDiff, Nat.reduceEqDiff, Int.reduceLT, Int.reduceLE, Int.reduceEq, Nat.lt_irrefl, Nat.zero_lt_succ, Nat.reduceMul, Int.reduceNeg, Bool.false_eq_true, if_true, if_false, Nat.zero_add, nlit, eq_self, decide_true, decide_false, reduceIte, Bool.or_false, Bool.false_or, Bool.true_or, Bool.or_true, Bool.and_true, Bool.true_and, Bool.and_false, Bool.false_and, Bool.not_true, Bool.not_false, List.all_cons, List.all_nil, List.any_cons, List.any_nil, e]
    exact ⟨by rw [he]; rfl, .app _⟩
  · have ec : kindsText W.kinds = Str.join "," (W.kinds.map glued) := by unfold kindsText; rw [if_neg he]
    have e : decide (kindsText W.kinds = ("-" : Str)) = false := by
      rw [ec]
      cases hk : W.kinds with
      | nil => exact (he hk).elim
      | cons kd ks =>
        have hm : kd ∈ W.kinds := by rw [hk]; exact List.mem_cons_self
        have h10 := ok.kd10 kd hm
        have hne := (ok.kd kd hm).2
        have hg := tl_glued h10.1
        cases kd with
        | nil => exact (hne rfl).elim
        | cons x xs =>
          obtain ⟨r, hr⟩ := joinL_head (S := TL.tl ",") (ps := (ks.map glued).map TL.tl) (p := TL.tl (glued (x :: xs))) (by rw [hg]; rfl)
          refine ne_dash (c := 48 + x.toNat) (r := r) ?_ (by omega)
          rw [TL.tl_join]
          simpa using hr
    have hlen := kinds_len ok
    simp only [wp_cons, wp_nil, wx_asgi, ev_lit, ev_var, ev_gl, ev_tup, ev_lst, ev_bin, ev_neg, ev_cmp, ev_chain, ev_and, ev_or, ev_not, ev_ifx, ev_idx, ev_slc, ev_call, ev_blt, ev_isi, ev_isis, ev_mth, ev_lc, ei_val, ei_rng1, ei_rng2, ei_zip, ei_enum, wx_addL, ev_fmt, ev_fstr, ev_tupRg1, ev_tupRg2, wp_fmtS, wp_fmtI, wp_fstr, wp_tupRg, wx_reverse, wp_neg, wp_rng1, wp_rng2, evEs, ev_asg, ev_ex, ev_ret, ev_retn, ev_iff, ev_for, ev_pass, ev_brk, ev_cont, ev_nope, wp_no, evT, evAnd, evOr, evTA, evTO, evP, evC, wp_bnd, wp_ret, wp_opt, wp_see, wp_add, wp_sub, wx_mul, wx_fdiv, wx_mod, wx_addS, wx_addT, wx_idxT, wx_idxL, wx_int, wx_abs, wx_lenL, wx_lenT, wx_lenS, wx_strI, wx_tupT, wx_tupL, wx_listT, wx_listL, wx_listS, wx_slcT, wx_slcL, wx_append, wx_pop0, wx_joinL, wx_split, wx_find, wp_newL, wp_setL, then_nx, then_rt, then_bk, then_ct, fin_rt, fin_nx, asg_name, asg_tup, asgs_nil, asgs_cons, le_line, lt_line, cop_eq, cop_ne, cop_lt, cop_le, cop_gt, cop_ge, cop_in, cop_notin, cop_is0, cop_is1, cop_is2, cop_is3, cop_is4, cop_is5, eq_int, eq_bl, eq_str, tru_non, tru_bl, tru_int, tru_tup, tru_ref, tn_non, tn_bl, tn_int, tn_str, tn_tup, tn_ref, isTn, mt_append, mt_pop0, mt_pop, mt_reverse, mt_clear, mt_join, mt_split, mt_find, mt_startswith, mt_partition, wk_tup, wk_str, wk_ref,
    rdL_cons0, rdL_ro0, rdL_succ, rdM_cons0, rdM_succ, List.map_cons, List.map_nil, List.replicate_succ, List.replicate_zero, List.cons_append, List.nil_append, List.append_nil, List.append_assoc, rdL_at, rdL_at0, rdM_at, rdM_at0, set_at, set_at0, List.length_append, Nat.add_assoc, List.getElem?_cons_succ, List.getElem?_cons_zero, List.set_cons_succ, List.set_cons_zero, Nat.reduceSub, Nat.reduceAdd, Option.map_some, Option.bind_some, Option.some.injEq, exists_eq_left', exists_eq_left, exists_eq', exists_and_left, exists_const, D.int.injEq, D.ref.injEq, D.str.injEq, D.bl.injEq, D.tup.injEq, true_and, and_true, List.length_cons, List.length_nil, atI_lit, ixN_lit, Nat.reduceLT, Nat.reduceLeDiff, Nat.reduceEqDiff, Int.reduceLT, Int.reduceLE, Int.reduceEq, Nat.lt_irrefl, Nat.zero_lt_succ, Nat.reduceMul, Int.reduceNeg, Bool.false_eq_true, if_true, if_false, Nat.zero_add, nlit, eq_self, decide_true, decide_false, reduceIte, Bool.or_false, Bool.false_or, Bool.true_or, Bool.or_true, Bool.and_true, Bool.true_and, Bool.and_false, Bool.false_and, Bool.not_true, Bool.not_false, List.all_cons, List.all_nil, List.any_cons, List.any_nil, e]
    refine ⟨⟨by decide +kernel, Nat.le_trans (by omega : _ ≤ 1000) (by decide)⟩, ?_⟩
    rw [ec, split_glued ok he]
    obtain ⟨I, hI⟩ : ∃ I : Nat → Env → Store → Prop, ∀ i ρ S', I i ρ S' ↔ (∃ (a2 a3 : Option D) (X : Store), ρ = [some (.str (Str.join "," (W.kinds.map glued))), some (.ref S.length), a2, a3] ∧ S' = S ++ .lst ((W.kinds.take i).map tupI) :: .lst ((W.kinds.map glued).map .str) :: X) := ⟨_, fun _ _ _ => Iff.rfl⟩
    have hz : ((W.kinds.map glued).map D.str).length = W.kinds.length := by simp
    refine loop_wp (w := wkList _ _) I (fun i ρ S1 hi hh => ?_) (fun ρ S1 hh => ?_) _ 0 _ _ (by simp [wkList]) ((hI _ _ _).mpr ⟨none, none, [], rfl, by simp⟩)
    · obtain ⟨a2, a3, X, rfl, rfl⟩ := (hI _ _ _).mp hh
      have hi : i < W.kinds.length := by simpa [wkList] using hi
      have hm := List.getElem_mem hi
      have h10 := ok.kd10 W.kinds[i] hm
      refine ⟨.str (glued W.kinds[i]), ?_, ?_⟩
      · simp only [wkList, wp_cons, wp_nil, wx_asgi, ev_lit, ev_var, ev_gl, ev_tup, ev_lst, ev_bin, ev_neg, ev_cmp, ev_chain, ev_and, ev_or, ev_not, ev_ifx, ev_idx, ev_slc, ev_call, ev_blt, ev_isi, ev_isis, ev_mth, ev_lc, ei_val, ei_rng1, ei_rng2, ei_zip, ei_enum, wx_addL, ev_fmt, ev_fstr, ev_tupRg1, ev_tupRg2, wp_fmtS, wp_fmtI, wp_fstr, wp_tupRg, wx_reverse, wp_neg, wp_rng1, wp_rng2, evEs, ev_asg, ev_ex, ev_ret, ev_retn, ev_iff, ev_for, ev_pass, ev_brk, ev_cont, ev_nope, wp_no, evT, evAnd, evOr, evTA, evTO, evP, evC, wp_bnd, wp_ret, wp_opt, wp_see, wp_add, wp_sub, wx_mul, wx_fdiv, wx_mod, wx_addS, wx_addT, wx_idxT, wx_idxL, wx_int, wx_abs, wx_lenL, wx_lenT, wx_lenS, wx_strI, wx_tupT, wx_tupL, wx_listT, wx_listL, wx_listS, wx_slcT, wx_slcL, wx_append, wx_pop0, wx_joinL, wx_split, wx_find, wp_newL, wp_setL, then_nx, then_rt, then_bk, then_ct, fin_rt, fin_nx, asg_name, asg_tup, asgs_nil, asgs_cons, le_line, lt_line, cop_eq, cop_ne, cop_lt, cop_le, cop_gt, cop_ge, cop_in, cop_notin, cop_is0, cop_is1, cop_is2, cop_is3, cop_is4, cop_is5, eq_int, eq_bl, eq_str, tru_non, tru_bl, tru_int, tru_tup, tru_ref, tn_non, tn_bl, tn_int, tn_str, tn_tup, tn_ref, isTn, mt_append, mt_pop0, mt_pop, mt_reverse, mt_clear, mt_join, mt_split, mt_find, mt_startswith, mt_partition, wk_tup, wk_str, wk_ref,
    rdL_cons0, rdL_ro0, rdL_succ, rdM_cons0, rdM_succ, List.map_cons, List.map_nil, List.replicate_succ, List.replicate_zero, List.cons_append, List.nil_append, List.append_nil, List.append_assoc, rdL_at, rdL_at0, rdM_at, rdM_at0, set_at, set_at0, List.length_append, Nat.add_assoc, List.getElem?_cons_succ, List.getElem?_cons_zero, List.set_cons_succ, List.set_cons_zero, Nat.reduceSub, Nat.reduceAdd, Option.map_some, Option.bind_some, Option.some.injEq, exists_eq_left', exists_eq_left, exists_eq', exists_and_left, exists_const, D.int.injEq, D.ref.injEq, D.str.injEq, D.bl.injEq, D.tup.injEq, true_and, and_true, List.length_cons, List.length_nil, atI_lit, ixN_lit, Nat.reduceLT, Nat.reduceLeDiff, Nat.reduceEqDiff, Int.reduceLT, Int.reduceLE, Int.reduceEq, Nat.lt_irrefl, Nat.zero_lt_succ, Nat.reduceMul, Int.reduceNeg, Bool.false_eq_true, if_true, if_false, Nat.zero_add, nlit, eq_self, decide_true, decide_false, reduceIte, Bool.or_false, Bool.false_or, Bool.true_or, Bool.or_true, Bool.and_true, Bool.true_and, Bool.and_false, Bool.false_and, Bool.not_true, Bool.not_false, List.all_cons, List.all_nil, List.any_cons, List.any_nil]
        simp [List.getElem?_eq_getElem hi]
      · rw [wx_stepF]
        simp only [wp_cons, wp_nil, wx_asgi, ev_lit, ev_var, ev_gl, ev_tup, ev_lst, ev_bin, ev_neg, ev_cmp, ev_chain, ev_and, ev_or, ev_not, ev_ifx, ev_idx, ev_slc, ev_call, ev_blt, ev_isi, ev_isis, ev_mth, ev_lc, ei_val, ei_rng1, ei_rng2, ei_zip, ei_enum, wx_addL, ev_fmt, ev_fstr, ev_tupRg1, ev_tupRg2, wp_fmtS, wp_fmtI, wp_fstr, wp_tupRg, wx_reverse, wp_neg, wp_rng1, wp_rng2, evEs, ev_asg, ev_ex, ev_ret, ev_retn, ev_iff, ev_for, ev_pass, ev_brk, ev_cont, ev_nope, wp_no, evT, evAnd, evOr, evTA, evTO, evP, evC, wp_bnd, wp_ret, wp_opt, wp_see, wp_add, wp_sub, wx_mul, wx_fdiv, wx_mod, wx_addS, wx_addT, wx_idxT, wx_idxL, wx_int, wx_abs, wx_lenL, wx_lenT, wx_lenS, wx_strI, wx_tupT, wx_tupL, wx_listT, wx_listL, wx_listS, wx_slcT, wx_slcL, wx_append, wx_pop0, wx_joinL, wx_split, wx_find, wp_newL, wp_setL, then_nx, then_rt, then_bk, then_ct, fin_rt, fin_nx, asg_name, asg_tup, asgs_nil, asgs_cons, le_line, lt_line, cop_eq, cop_ne, cop_lt, cop_le, cop_gt, cop_ge, cop_in, cop_notin, cop_is0, cop_is1, cop_is2, cop_is3, cop_is4, cop_is5, eq_int, eq_bl, eq_str, tru_non, tru_bl, tru_int, tru_tup, tru_ref, tn_non, tn_bl, tn_int, tn_str, tn_tup, tn_ref, isTn, mt_append, mt_pop0, mt_pop, mt_reverse, mt_clear, mt_join, mt_split, mt_find, mt_startswith, mt_partition, wk_tup, wk_str, wk_ref,
    rdL_cons0, rdL_ro0, rdL_succ, rdM_cons0, rdM_succ, List.map_cons, List.map_nil, List.replicate_succ, List.replicate_zero, List.cons_append, List.nil_append, List.append_nil, List.append_assoc, rdL_at, rdL_at0, rdM_at, rdM_at0, set_at, set_at0, List.length_append, Nat.add_assoc, List.getElem?_cons_succ, List.getElem?_cons_zero, List.set_cons_succ, List.set_cons_zero, Nat.reduceSub, Nat.reduceAdd, Option.map_some, Option.bind_some, Option.some.injEq, exists_eq_left', exists_eq_left, exists_eq', exists_and_left, exists_const, D.int.injEq, D.ref.injEq, D.str.injEq, D.bl.injEq, D.tup.injEq, true_and, and_true, List.length_cons, List.length_nil, atI_lit, ixN_lit, Nat.reduceLT, Nat.reduceLeDiff, Nat.reduceEqDiff, Int.reduceLT, Int.reduceLE, Int.reduceEq, Nat.lt_irrefl, Nat.zero_lt_succ, Nat.reduceMul, Int.reduceNeg, Bool.false_eq_true, if_true, if_false, Nat.zero_add, nlit, eq_self, decide_true, decide_false, reduceIte, Bool.or_false, Bool.false_or, Bool.true_or, Bool.or_true, Bool.and_true, Bool.true_and, Bool.and_false, Bool.false_and, Bool.not_true, Bool.not_false, List.all_cons, List.all_nil, List.any_cons, List.any_nil]
        refine ⟨?_, ?_⟩
        · have e1 : (glued W.kinds[i]).cps.size = (glued W.kinds[i]).length := rfl
          rw [e1]
          exact Nat.le_trans (glued_len h10.1) (Nat.le_trans (by omega : _ ≤ 1000) (by decide))
        · rw [signs_glued h10.1]
          have hasc : Asc 10 W.kinds[i] := (ok.kd _ hm).1.mono (by have := ok.l; omega)
          refine (read_digits_ok (k := k) (xs := W.kinds[i]) h.rdigits h.rdigit h.asc h.integer h.digits hasc ?_).to fun S2 g => ?_
          · rw [show S ++ (Ob.lst ((W.kinds.take i).map tupI) :: Ob.lst ((W.kinds.map glued).map D.str) :: (X ++ [Ob.lst ((W.kinds[i].map dig).map D.str)])) = (S ++ (Ob.lst ((W.kinds.take i).map tupI) :: Ob.lst ((W.kinds.map glued).map D.str) :: X)) ++ [Ob.lst ((W.kinds[i].map dig).map D.str)] from by simp,
              show S.length + (X.length + 2) = (S ++ (Ob.lst ((W.kinds.take i).map tupI) :: Ob.lst ((W.kinds.map glued).map D.str) :: X)).length from by simp]
            exact rdL_new
          · obtain ⟨Y, rfl⟩ := g
            have hlt : ((W.kinds.take i).map tupI).length ≤ 1000 := by have := ok.kl; simp; omega
            have ei : copF .isN (tupI W.kinds[i]) .non (S ++ (Ob.lst ((W.kinds.take i).map tupI) :: Ob.lst ((W.kinds.map glued).map D.str) :: (X ++ [Ob.lst ((W.kinds[i].map dig).map D.str)])) ++ Y) = some false := rfl
            simp only [wp_cons, wp_nil, wx_asgi, ev_lit, ev_var, ev_gl, ev_tup, ev_lst, ev_bin, ev_neg, ev_cmp, ev_chain, ev_and, ev_or, ev_not, ev_ifx, ev_idx, ev_slc, ev_call, ev_blt, ev_isi, ev_isis, ev_mth, ev_lc, ei_val, ei_rng1, ei_rng2, ei_zip, ei_enum, wx_addL, ev_fmt, ev_fstr, ev_tupRg1, ev_tupRg2, wp_fmtS, wp_fmtI, wp_fstr, wp_tupRg, wx_reverse, wp_neg, wp_rng1, wp_rng2, evEs, ev_asg, ev_ex, ev_ret, ev_retn, ev_iff, ev_for, ev_pass, ev_brk, ev_cont, ev_nope, wp_no, evT, evAnd, evOr, evTA, evTO, evP, evC, wp_bnd, wp_ret, wp_opt, wp_see, wp_add, wp_sub, wx_mul, wx_fdiv, wx_mod, wx_addS, wx_addT, wx_idxT, wx_idxL, wx_int, wx_abs, wx_lenL, wx_lenT, wx_lenS, wx_strI, wx_tupT, wx_tupL, wx_listT, wx_listL, wx_listS, wx_slcT, wx_slcL, wx_append, wx_pop0, wx_joinL, wx_split, wx_find, wp_newL, wp_setL, then_nx, then_rt, then_bk, then_ct, fin_rt, fin_nx, asg_name, asg_tup, asgs_nil, asgs_cons, le_line, lt_line, cop_eq, cop_ne, cop_lt, cop_le, cop_gt, cop_ge, cop_in, cop_notin, cop_is0, cop_is1, cop_is2, cop_is3, cop_is4, cop_is5, eq_int, eq_bl, eq_str, tru_non, tru_bl, tru_int, tru_tup, tru_ref, tn_non, tn_bl, tn_int, tn_str, tn_tup, tn_ref, isTn, mt_append, mt_pop0, mt_pop, mt_reverse, mt_clear, mt_join, mt_split, mt_find, mt_startswith, mt_partition, wk_tup, wk_str, wk_ref,
    rdL_cons0, rdL_ro0, rdL_succ, rdM_cons0, rdM_succ, List.map_cons, List.map_nil, List.replicate_succ, List.replicate_zero, List.cons_append, List.nil_append, List.append_nil, List.append_assoc, rdL_at, rdL_at0, rdM_at, rdM_at0, set_at, set_at0, List.length_append, Nat.add_assoc, List.getElem?_cons_succ, List.getElem?_cons_zero, List.set_cons_succ, List.set_cons_zero, Nat.reduceSub, Nat.reduceAdd, Option.map_some, Option.bind_some, Option.some.injEq, exists_eq_left', exists_eq_left, exists_eq', exists_and_left, exists_const, D.int.injEq, D.ref.injEq, D.str.injEq, D.bl.injEq, D.tup.injEq, true_and, and_true, List.length_cons, List.length_nil, atI_lit, ixN_lit, Nat.reduceLT, Nat.reduceLeDiff, Nat.reduceEqDiff, Int.reduceLT, Int.reduceLE, Int.reduceEq, Nat.lt_irrefl, Nat.zero_lt_succ, Nat.reduceMul, Int.reduceNeg, Bool.false_eq_true, if_true, if_false, Nat.zero_add, nlit, eq_self, decide_true, decide_false, reduceIte, Bool.or_false, Bool.false_or, Bool.true_or, Bool.or_true, Bool.and_true, Bool.true_and, Bool.and_false, Bool.false_and, Bool.not_true, Bool.not_false, List.all_cons, List.all_nil, List.any_cons, List.any_nil] at ei ⊢
            simp only [wp_cons, wp_nil, wx_asgi, ev_lit, ev_var, ev_gl, ev_tup, ev_lst, ev_bin, ev_neg, ev_cmp, ev_chain, ev_and, ev_or, ev_not, ev_ifx, ev_idx, ev_slc, ev_call, ev_blt, ev_isi, ev_isis, ev_mth, ev_lc, ei_val, ei_rng1, ei_rng2, ei_zip, ei_enum, wx_addL, ev_fmt, ev_fstr, ev_tupRg1, ev_tupRg2, wp_fmtS, wp_fmtI, wp_fstr, wp_tupRg, wx_reverse, wp_neg, wp_rng1, wp_rng2, evEs, ev_asg, ev_ex, ev_ret, ev_retn, ev_iff, ev_for, ev_pass, ev_brk, ev_cont, ev_nope, wp_no, evT, evAnd, evOr, evTA, evTO, evP, evC, wp_bnd, wp_ret, wp_opt, wp_see, wp_add, wp_sub, wx_mul, wx_fdiv, wx_mod, wx_addS, wx_addT, wx_idxT, wx_idxL, wx_int, wx_abs, wx_lenL, wx_lenT, wx_lenS, wx_strI, wx_tupT, wx_tupL, wx_listT, wx_listL, wx_listS, wx_slcT, wx_slcL, wx_append, wx_pop0, wx_joinL, wx_split, wx_find, wp_newL, wp_setL, then_nx, then_rt, then_bk, then_ct, fin_rt, fin_nx, asg_name, asg_tup, asgs_nil, asgs_cons, le_line, lt_line, cop_eq, cop_ne, cop_lt, cop_le, cop_gt, cop_ge, cop_in, cop_notin, cop_is0, cop_is1, cop_is2, cop_is3, cop_is4, cop_is5, eq_int, eq_bl, eq_str, tru_non, tru_bl, tru_int, tru_tup, tru_ref, tn_non, tn_bl, tn_int, tn_str, tn_tup, tn_ref, isTn, mt_append, mt_pop0, mt_pop, mt_reverse, mt_clear, mt_join, mt_split, mt_find, mt_startswith, mt_partition, wk_tup, wk_str, wk_ref,
    rdL_cons0, rdL_ro0, rdL_succ, rdM_cons0, rdM_succ, List.map_cons, List.map_nil, List.replicate_succ, List.replicate_zero, List.cons_append, List.nil_append, List.append_nil, List.append_assoc, rdL_at, rdL_at0, rdM_at, rdM_at0, set_at, set_at0, List.length_append, Nat.add_assoc, List.getElem?_cons_succ, List.getElem?_cons_zero, List.set_cons_succ, List.set_cons_zero, Nat.reduceSub, Nat.reduceAdd, Option.map_some, Option.bind_some, Option.some.injEq, exists_eq_left', exists_eq_left, exists_eq', exists_and_left, exists_const, D.int.injEq, D.ref.injEq, D.str.injEq, D.bl.injEq, D.tup.injEq, true_and, and_true, List.length_cons, List.length_nil, atI_lit, ixN_lit, Nat.reduceLT, Nat.reduceLeDiff, Nat.reduceEqDiff, Int.reduceLT, Int.reduceLE, Int.reduceEq, Nat.lt_irrefl, Nat.zero_lt_succ, Nat.reduceMul, Int.reduceNeg, Bool.false_eq_true, if_true, if_false, Nat.zero_add, nlit, eq_self, decide_true, decide_false, reduceIte, Bool.or_false, Bool.false_or, Bool.true_or, Bool.or_true, Bool.and_true, Bool.true_and, Bool.and_false, Bool.false_and, Bool.not_true, Bool.not_false, List.all_cons, List.all_nil, List.any_cons, List.any_nil, ei, eq_tupI_nil (ok.kd _ hm).2, lt_line hlt]
            refine (hI (i + 1) _ _).mpr ⟨_, _, X ++ ([.lst ((W.kinds[i].map dig).map .str)] ++ Y), rfl, ?_⟩
            rw [List.take_succ_eq_append_getElem hi, List.map_append]
            simp
    · obtain ⟨a2, a3, X, rfl, rfl⟩ := (hI _ _ _).mp hh
      have e1 : (wkList (S.length + 1) ((W.kinds.map glued).map D.str).length).n = W.kinds.length := by simp [wkList]
      refine ⟨?_, ?_⟩
      · simp only [wkList, wp_cons, wp_nil, wx_asgi, ev_lit, ev_var, ev_gl, ev_tup, ev_lst, ev_bin, ev_neg, ev_cmp, ev_chain, ev_and, ev_or, ev_not, ev_ifx, ev_idx, ev_slc, ev_call, ev_blt, ev_isi, ev_isis, ev_mth, ev_lc, ei_val, ei_rng1, ei_rng2, ei_zip, ei_enum, wx_addL, ev_fmt, ev_fstr, ev_tupRg1, ev_tupRg2, wp_fmtS, wp_fmtI, wp_fstr, wp_tupRg, wx_reverse, wp_neg, wp_rng1, wp_rng2, evEs, ev_asg, ev_ex, ev_ret, ev_retn, ev_iff, ev_for, ev_pass, ev_brk, ev_cont, ev_nope, wp_no, evT, evAnd, evOr, evTA, evTO, evP, evC, wp_bnd, wp_ret, wp_opt, wp_see, wp_add, wp_sub, wx_mul, wx_fdiv, wx_mod, wx_addS, wx_addT, wx_idxT, wx_idxL, wx_int, wx_abs, wx_lenL, wx_lenT, wx_lenS, wx_strI, wx_tupT, wx_tupL, wx_listT, wx_listL, wx_listS, wx_slcT, wx_slcL, wx_append, wx_pop0, wx_joinL, wx_split, wx_find, wp_newL, wp_setL, then_nx, then_rt, then_bk, then_ct, fin_rt, fin_nx, asg_name, asg_tup, asgs_nil, asgs_cons, le_line, lt_line, cop_eq, cop_ne, cop_lt, cop_le, cop_gt, cop_ge, cop_in, cop_notin, cop_is0, cop_is1, cop_is2, cop_is3, cop_is4, cop_is5, eq_int, eq_bl, eq_str, tru_non, tru_bl, tru_int, tru_tup, tru_ref, tn_non, tn_bl, tn_int, tn_str, tn_tup, tn_ref, isTn, mt_append, mt_pop0, mt_pop, mt_reverse, mt_clear, mt_join, mt_split, mt_find, mt_startswith, mt_partition, wk_tup, wk_str, wk_ref,
    rdL_cons0, rdL_ro0, rdL_succ, rdM_cons0, rdM_succ, List.map_cons, List.map_nil, List.replicate_succ, List.replicate_zero, List.cons_append, List.nil_append, List.append_nil, List.append_assoc, rdL_at, rdL_at0, rdM_at, rdM_at0, set_at, set_at0, List.length_append, Nat.add_assoc, List.getElem?_cons_succ, List.getElem?_cons_zero, List.set_cons_succ, List.set_cons_zero, Nat.reduceSub, Nat.reduceAdd, Option.map_some, Option.bind_some, Option.some.injEq, exists_eq_left', exists_eq_left, exists_eq', exists_and_left, exists_const, D.int.injEq, D.ref.injEq, D.str.injEq, D.bl.injEq, D.tup.injEq, true_and, and_true, List.length_cons, List.length_nil, atI_lit, ixN_lit, Nat.reduceLT, Nat.reduceLeDiff, Nat.reduceEqDiff, Int.reduceLT, Int.reduceLE, Int.reduceEq, Nat.lt_irrefl, Nat.zero_lt_succ, Nat.reduceMul, Int.reduceNeg, Bool.false_eq_true, if_true, if_false, Nat.zero_add, nlit, eq_self, decide_true, decide_false, reduceIte, Bool.or_false, Bool.false_or, Bool.true_or, Bool.or_true, Bool.and_true, Bool.true_and, Bool.and_false, Bool.false_and, Bool.not_true, Bool.not_false, List.all_cons, List.all_nil, List.any_cons, List.any_nil]
        exact decide_eq_true (Nat.le_refl _)
      · simp only [wp_cons, wp_nil, wx_asgi, ev_lit, ev_var, ev_gl, ev_tup, ev_lst, ev_bin, ev_neg, ev_cmp, ev_chain, ev_and, ev_or, ev_not, ev_ifx, ev_idx, ev_slc, ev_call, ev_blt, ev_isi, ev_isis, ev_mth, ev_lc, ei_val, ei_rng1, ei_rng2, ei_zip, ei_enum, wx_addL, ev_fmt, ev_fstr, ev_tupRg1, ev_tupRg2, wp_fmtS, wp_fmtI, wp_fstr, wp_tupRg, wx_reverse, wp_neg, wp_rng1, wp_rng2, evEs, ev_asg, ev_ex, ev_ret, ev_retn, ev_iff, ev_for, ev_pass, ev_brk, ev_cont, ev_nope, wp_no, evT, evAnd, evOr, evTA, evTO, evP, evC, wp_bnd, wp_ret, wp_opt, wp_see, wp_add, wp_sub, wx_mul, wx_fdiv, wx_mod, wx_addS, wx_addT, wx_idxT, wx_idxL, wx_int, wx_abs, wx_lenL, wx_lenT, wx_lenS, wx_strI, wx_tupT, wx_tupL, wx_listT, wx_listL, wx_listS, wx_slcT, wx_slcL, wx_append, wx_pop0, wx_joinL, wx_split, wx_find, wp_newL, wp_setL, then_nx, then_rt, then_bk, then_ct, fin_rt, fin_nx, asg_name, asg_tup, asgs_nil, asgs_cons, le_line, lt_line, cop_eq, cop_ne, cop_lt, cop_le, cop_gt, cop_ge, cop_in, cop_notin, cop_is0, cop_is1, cop_is2, cop_is3, cop_is4, cop_is5, eq_int, eq_bl, eq_str, tru_non, tru_bl, tru_int, tru_tup, tru_ref, tn_non, tn_bl, tn_int, tn_str, tn_tup, tn_ref, isTn, mt_append, mt_pop0, mt_pop, mt_reverse, mt_clear, mt_join, mt_split, mt_find, mt_startswith, mt_partition, wk_tup, wk_str, wk_ref,
    rdL_cons0, rdL_ro0, rdL_succ, rdM_cons0, rdM_succ, List.map_cons, List.map_nil, List.replicate_succ, List.replicate_zero, List.cons_append, List.nil_append, List.append_nil, List.append_assoc, rdL_at, rdL_at0, rdM_at, rdM_at0, set_at, set_at0, List.length_append, Nat.add_assoc, List.getElem?_cons_succ, List.getElem?_cons_zero, List.set_cons_succ, List.set_cons_zero, Nat.reduceSub, Nat.reduceAdd, Option.map_some, Option.bind_some, Option.some.injEq, exists_eq_left', exists_eq_left, exists_eq', exists_and_left, exists_const, D.int.injEq, D.ref.injEq, D.str.injEq, D.bl.injEq, D.tup.injEq, true_and, and_true, List.length_cons, List.length_nil, atI_lit, ixN_lit, Nat.reduceLT, Nat.reduceLeDiff, Nat.reduceEqDiff, Int.reduceLT, Int.reduceLE, Int.reduceEq, Nat.lt_irrefl, Nat.zero_lt_succ, Nat.reduceMul, Int.reduceNeg, Bool.false_eq_true, if_true, if_false, Nat.zero_add, nlit, eq_self, decide_true, decide_false, reduceIte, Bool.or_false, Bool.false_or, Bool.true_or, Bool.or_true, Bool.and_true, Bool.true_and, Bool.and_false, Bool.false_and, Bool.not_true, Bool.not_false, List.all_cons, List.all_nil, List.any_cons, List.any_nil]
        refine ⟨?_, .app _⟩
        rw [e1, List.take_length]
end
end My

/-! The program reads a rule's text. -/
namespace My
open PySem PySem.Spec PyProof.Rows L2
theorem in_tup {S : Store} {x : D} {ys : List D} : inF S x (.tup ys) = if flatD x && ys.all flatD then some (ys.any fun z => eqFlat z x) else none := rfl
section
variable {ds : List Df} {con : Str → Option D} {fuel k : Nat} {S : Store} {W : Wy}
theorem nob {x : Str} (h : (TL.tl x).all (fun c => decide (c ≠ 32)) = true) : 32 ∉ TL.tl x := fun hm => by
  have := List.all_eq_true.mp h 32 hm
  simp at this
theorem mem_joinL {S : List Nat} {c : Nat} : ∀ {ps : List (List Nat)}, c ∈ TL.joinL S ps → c ∈ S ∨ ∃ p ∈ ps, c ∈ p
  | [], h => by simp [TL.joinL] at h
  | [p], h => .inr ⟨p, List.mem_cons_self, by simpa [TL.joinL] using h⟩
  | p :: q :: r, h => by
    simp only [TL.joinL, List.mem_append] at h
    rcases h with h | h | h
    · exact .inr ⟨p, List.mem_cons_self, h⟩
    · exact .inl h
    · rcases mem_joinL h with h | ⟨p', h1, h2⟩
      · exact .inl h
      · exact .inr ⟨p', List.mem_cons_of_mem _ h1, h2⟩
theorem nob_dig {i : Int} (h : 0 ≤ i ∧ i < 10) : 32 ∉ TL.tl (dig i) := by
  rw [tl_dig h]; simp; omega
theorem nob_commas {xs : List Int} (h : Sm10 xs) : 32 ∉ TL.tl (commas xs) := by
  unfold commas
  by_cases hx : xs = []
  · rw [if_pos hx]; decide +kernel
  · rw [if_neg hx, TL.tl_join]
    intro hm
    rcases mem_joinL hm with h1 | ⟨p, h1, h2⟩
    · have e : TL.tl ("," : Str) = [44] := by decide +kernel
      rw [e] at h1; simp at h1
    · rw [List.map_map] at h1
      obtain ⟨i, hi, rfl⟩ := List.mem_map.mp h1
      exact nob_dig (h i hi) h2
theorem nob_kinds (ok : W.Ok) : 32 ∉ TL.tl (kindsText W.kinds) := by
  unfold kindsText
  by_cases hx : W.kinds = []
  · rw [if_pos hx]; decide +kernel
  · rw [if_neg hx, TL.tl_join]
    intro hm
    rcases mem_joinL hm with h1 | ⟨p, h1, h2⟩
    · have e : TL.tl ("," : Str) = [44] := by decide +kernel
      rw [e] at h1; simp at h1
    · rw [List.map_map] at h1
      obtain ⟨kd, hk, rfl⟩ := List.mem_map.mp h1
      simp only [Function.comp] at h2
      rw [tl_glued (ok.kd10 kd hk).1] at h2
      obtain ⟨i, hi, e⟩ := List.mem_map.mp h2
      omega
theorem split_words (ok : W.Ok) : Txt.split (textOf W) " " = wordsOf W := by
  unfold textOf
  rw [← TL.join_eq]
  refine TL.split_join (s := 32) (S := []) (by decide +kernel) (by decide +kernel) (by simp [wordsOf]) fun x hx => ?_
  have e1 := ok.snd
  have e2 := ok.look
  simp only [wordsOf, List.mem_cons, List.not_mem_nil, or_false] at hx
  rcases hx with rfl | rfl | rfl | rfl | rfl | rfl | rfl | rfl
  · exact nob_dig (by have := ok.w; omega)
  · exact nob_dig (by have := ok.l; omega)
  · exact nob_dig (by have := ok.r; omega)
  · rcases e1 with e | e | e <;> (rw [e]; decide +kernel)
  · cases W.eag <;> decide +kernel
  · rcases e2 with e | e | e <;> (rw [e]; decide +kernel)
  · exact nob_kinds ok
  · exact nob_commas ok.act10
theorem read_rule_ok (h : FQ ds con) (ok : W.Ok) : Pu (callD ds con fuel (k + 5) "read_rule" [.str (textOf W)]) S W.d := by
  refine pu_call h.read_rule rfl rfl ?_
  simp only [Lib.df_read_rule, Lib.b_read_rule]
  simp only [wp_cons, wp_nil, wx_asgi, ev_lit, ev_var, ev_gl, ev_tup, ev_lst, ev_bin, ev_neg, ev_cmp, ev_chain, ev_and, ev_or, ev_not, ev_ifx, ev_idx, ev_slc, ev_call, ev_blt, ev_isi, ev_isis, ev_mth, ev_lc, ei_val, ei_rng1, ei_rng2, ei_zip, ei_enum, wx_addL, ev_fmt, ev_fstr, ev_tupRg1, ev_tupRg2, wp_fmtS, wp_fmtI, wp_fstr, wp_tupRg, wx_reverse, wp_neg, wp_rng1, wp_rng2, evEs, ev_asg, ev_ex, ev_ret, ev_retn, ev_iff, ev_for, ev_pass, ev_brk, ev_cont, ev_nope, wp_no, evT, evAnd, evOr, evTA, evTO, evP, evC, wp_bnd, wp_ret, wp_opt, wp_see, wp_add, wp_sub, wx_mul, wx_fdiv, wx_mod, wx_addS, wx_addT, wx_idxT, wx_idxL, wx_int, wx_abs, wx_lenL, wx_lenT, wx_lenS, wx_strI, wx_tupT, wx_tupL, wx_listT, wx_listL, wx_listS, wx_slcT, wx_slcL, wx_append, wx_pop0, wx_joinL, wx_split, wx_find, wp_newL, wp_setL, then_nx, then_rt, then_bk, then_ct, fin_rt, fin_nx, asg_name, asg_tup, asgs_nil, asgs_cons, le_line, lt_line, cop_eq, cop_ne, cop_lt, cop_le, cop_gt, cop_ge, cop_in, cop_notin, cop_is0, cop_is1, cop_is2, cop_is3, cop_is4, cop_is5, eq_int, eq_bl, eq_str, tru_non, tru_bl, tru_int, tru_tup, tru_ref, tn_non, tn_bl, tn_int, tn_str, tn_tup, tn_ref, isTn, mt_append, mt_pop0, mt_pop, mt_reverse, mt_clear, mt_join, mt_split, mt_find, mt_startswith, mt_partition, wk_tup, wk_str, wk_ref,
    rdL_cons0, rdL_ro0, rdL_succ, rdM_cons0, rdM_succ, List.map_cons, List.map_nil, List.replicate_succ, List.replicate_zero, List.cons_append, List.nil_append, List.append_nil, List.append_assoc, rdL_at, rdL_at0, rdM_at, rdM_at0, set_at, set_at0, List.length_append, Nat.add_assoc, List.getElem?_cons_succ, List.getElem?_cons_zero, List.set_cons_succ, List.set_cons_zero, Nat.reduceSub, Nat.reduceAdd, Option.map_some, Option.bind_some, Option.some.injEq, exists_eq_left', exists_eq_left, exists_eq', exists_and_left, exists_const, D.int.injEq, D.ref.injEq, D.str.injEq, D.bl.injEq, D.tup.injEq, true_and, and_true, List.length_cons, List.length_nil, atI_lit, ixN_lit, Nat.reduceLT, Nat.reduceLeDiff, Nat.reduceEqDiff, Int.reduceLT, Int.reduceLE, Int.reduceEq, Nat.lt_irrefl, Nat.zero_lt_succ, Nat.reduceMul, Int.reduceNeg, Bool.false_eq_true, if_true, if_false, Nat.zero_add, nlit, eq_self, decide_true, decide_false, reduceIte, Bool.or_false, Bool.false_or, Bool.true_or, Bool.or_true, Bool.and_true, Bool.true_and, Bool.and_false, Bool.false_and, Bool.not_true, Bool.not_false, List.all_cons, List.all_nil, List.any_cons, List.any_nil]
  refine ⟨⟨by decide +kernel, Nat.le_trans (by have := text_len ok; omega : _ ≤ 1000) (by decide)⟩, ?_⟩
  rw [split_words ok]
  obtain ⟨ea, he⟩ : ∃ ea : Str, ea = if W.eag then ("eager" : Str) else ("free" : Str) := ⟨_, rfl⟩
  have ew : (wordsOf W).map D.str = [.str (dig W.w), .str (dig W.l), .str (dig W.r), .str W.snd, .str ea, .str W.look, .str (kindsText W.kinds), .str (commas W.act)] := by
    rw [he]; rfl
  rw [ew]
  have ein : ∀ S, inF S (.str ea) (.tup [.str "eager", .str "free"]) = some true := by
    intro S
    rw [he]
    rw [in_tup]
    cases W.eag <;> decide +kernel
  have eeq : decide (ea = ("eager" : Str)) = W.eag := by
    rw [he]
    cases W.eag <;> decide +kernel
  simp only [wp_cons, wp_nil, wx_asgi, ev_lit, ev_var, ev_gl, ev_tup, ev_lst, ev_bin, ev_neg, ev_cmp, ev_chain, ev_and, ev_or, ev_not, ev_ifx, ev_idx, ev_slc, ev_call, ev_blt, ev_isi, ev_isis, ev_mth, ev_lc, ei_val, ei_rng1, ei_rng2, ei_zip, ei_enum, wx_addL, ev_fmt, ev_fstr, ev_tupRg1, ev_tupRg2, wp_fmtS, wp_fmtI, wp_fstr, wp_tupRg, wx_reverse, wp_neg, wp_rng1, wp_rng2, evEs, ev_asg, ev_ex, ev_ret, ev_retn, ev_iff, ev_for, ev_pass, ev_brk, ev_cont, ev_nope, wp_no, evT, evAnd, evOr, evTA, evTO, evP, evC, wp_bnd, wp_ret, wp_opt, wp_see, wp_add, wp_sub, wx_mul, wx_fdiv, wx_mod, wx_addS, wx_addT, wx_idxT, wx_idxL, wx_int, wx_abs, wx_lenL, wx_lenT, wx_lenS, wx_strI, wx_tupT, wx_tupL, wx_listT, wx_listL, wx_listS, wx_slcT, wx_slcL, wx_append, wx_pop0, wx_joinL, wx_split, wx_find, wp_newL, wp_setL, then_nx, then_rt, then_bk, then_ct, fin_rt, fin_nx, asg_name, asg_tup, asgs_nil, asgs_cons, le_line, lt_line, cop_eq, cop_ne, cop_lt, cop_le, cop_gt, cop_ge, cop_in, cop_notin, cop_is0, cop_is1, cop_is2, cop_is3, cop_is4, cop_is5, eq_int, eq_bl, eq_str, tru_non, tru_bl, tru_int, tru_tup, tru_ref, tn_non, tn_bl, tn_int, tn_str, tn_tup, tn_ref, isTn, mt_append, mt_pop0, mt_pop, mt_reverse, mt_clear, mt_join, mt_split, mt_find, mt_startswith, mt_partition, wk_tup, wk_str, wk_ref,
    rdL_cons0, rdL_ro0, rdL_succ, rdM_cons0, rdM_succ, List.map_cons, List.map_nil, List.replicate_succ, List.replicate_zero, List.cons_append, List.nil_append, List.append_nil, List.append_assoc, rdL_at, rdL_at0, rdM_at, rdM_at0, set_at, set_at0, List.length_append, Nat.add_assoc, List.getElem?_cons_succ, List.getElem?_cons_zero, List.set_cons_succ, List.set_cons_zero, Nat.reduceSub, Nat.reduceAdd, Option.map_some, Option.bind_some, Option.some.injEq, exists_eq_left', exists_eq_left, exists_eq', exists_and_left, exists_const, D.int.injEq, D.ref.injEq, D.str.injEq, D.bl.injEq, D.tup.injEq, true_and, and_true, List.length_cons, List.length_nil, atI_lit, ixN_lit, Nat.reduceLT, Nat.reduceLeDiff, Nat.reduceEqDiff, Int.reduceLT, Int.reduceLE, Int.reduceEq, Nat.lt_irrefl, Nat.zero_lt_succ, Nat.reduceMul, Int.reduceNeg, Bool.false_eq_true, if_true, if_false, Nat.zero_add, nlit, eq_self, decide_true, decide_false, reduceIte, Bool.or_false, Bool.false_or, Bool.true_or, Bool.or_true, Bool.and_true, Bool.true_and, Bool.and_false, Bool.false_and, Bool.not_true, Bool.not_false, List.all_cons, List.all_nil, List.any_cons, List.any_nil, ein]
  have ecut : cutD [D.str (dig W.w), D.str (dig W.l), D.str (dig W.r), D.str W.snd, D.str ea, D.str W.look, D.str (kindsText W.kinds), D.str (commas W.act)] none (some 3) = (([W.w, W.l, W.r] : List Int).map dig).map D.str := rfl
  rw [ecut]
  have hs3 : Sm10 [W.w, W.l, W.r] := by
    intro x hx
    have := ok.w
    have := ok.l
    have := ok.r
    simp only [List.mem_cons, List.not_mem_nil, or_false] at hx
    rcases hx with rfl | rfl | rfl <;> omega
  refine comp_digits (k := k + 3) (xs := [W.w, W.l, W.r]) h.rdigit h.digits (by simp) hs3 (by simp) (by simp only [wp_cons, wp_nil, wx_asgi, ev_lit, ev_var, ev_gl, ev_tup, ev_lst, ev_bin, ev_neg, ev_cmp, ev_chain, ev_and, ev_or, ev_not, ev_ifx, ev_idx, ev_slc, ev_call, ev_blt, ev_isi, ev_isis, ev_mth, ev_lc, ei_val, ei_rng1, ei_rng2, ei_zip, ei_enum, wx_addL, ev_fmt, ev_fstr, ev_tupRg1, ev_tupRg2, wp_fmtS, wp_fmtI, wp_fstr, wp_tupRg, wx_reverse, wp_neg, wp_rng1, wp_rng2, evEs, ev_asg, ev_ex, ev_ret, ev_retn, ev_iff, ev_for, ev_pass, ev_brk, ev_cont, ev_nope, wp_no, evT, evAnd, evOr, evTA, evTO, evP, evC, wp_bnd, wp_ret, wp_opt, wp_see, wp_add, wp_sub, wx_mul, wx_fdiv, wx_mod, wx_addS, wx_addT, wx_idxT, wx_idxL, wx_int, wx_abs, wx_lenL, wx_lenT, wx_lenS, wx_strI, wx_tupT, wx_tupL, wx_listT, wx_listL, wx_listS, wx_slcT, wx_slcL, wx_append, wx_pop0, wx_joinL, wx_split, wx_find, wp_newL, wp_setL, then_nx, then_rt, then_bk, then_ct, fin_rt, fin_nx, asg_name, asg_tup, asgs_nil, asgs_cons, le_line, lt_line, cop_eq, cop_ne, cop_lt, cop_le, cop_gt, cop_ge, cop_in, cop_notin, cop_is0, cop_is1, cop_is2, cop_is3, cop_is4, cop_is5, eq_int, eq_bl, eq_str, tru_non, tru_bl, tru_int, tru_tup, tru_ref, tn_non, tn_bl, tn_int, tn_str, tn_tup, tn_ref, isTn, mt_append, mt_pop0, mt_pop, mt_reverse, mt_clear, mt_join, mt_split, mt_find, mt_startswith, mt_partition, wk_tup, wk_str, wk_ref,
    rdL_cons0, rdL_ro0, rdL_succ, rdM_cons0, rdM_succ, List.map_cons, List.map_nil, List.replicate_succ, List.replicate_zero, List.cons_append, List.nil_append, List.append_nil, List.append_assoc, rdL_at, rdL_at0, rdM_at, rdM_at0, set_at, set_at0, List.length_append, Nat.add_assoc, List.getElem?_cons_succ, List.getElem?_cons_zero, List.set_cons_succ, List.set_cons_zero, Nat.reduceSub, Nat.reduceAdd, Option.map_some, Option.bind_some, Option.some.injEq, exists_eq_left', exists_eq_left, exists_eq', exists_and_left, exists_const, D.int.injEq, D.ref.injEq, D.str.injEq, D.bl.injEq, D.tup.injEq, true_and, and_true, List.length_cons, List.length_nil, atI_lit, ixN_lit, Nat.reduceLT, Nat.reduceLeDiff, Nat.reduceEqDiff, Int.reduceLT, Int.reduceLE, Int.reduceEq, Nat.lt_irrefl, Nat.zero_lt_succ, Nat.reduceMul, Int.reduceNeg, Bool.false_eq_true, if_true, if_false, Nat.zero_add, nlit, eq_self, decide_true, decide_false, reduceIte, Bool.or_false, Bool.false_or, Bool.true_or, Bool.or_true, Bool.and_true, Bool.true_and, Bool.and_false, Bool.false_and, Bool.not_true, Bool.not_false, List.all_cons, List.all_nil, List.any_cons, List.any_nil]) fun S1 g1 => ?_
  obtain ⟨X, rfl⟩ := g1
  simp only [wp_cons, wp_nil, wx_asgi, ev_lit, ev_var, ev_gl, ev_tup, ev_lst, ev_bin, ev_neg, ev_cmp, ev_chain, ev_and, ev_or, ev_not, ev_ifx, ev_idx, ev_slc, ev_call, ev_blt, ev_isi, ev_isis, ev_mth, ev_lc, ei_val, ei_rng1, ei_rng2, ei_zip, ei_enum, wx_addL, ev_fmt, ev_fstr, ev_tupRg1, ev_tupRg2, wp_fmtS, wp_fmtI, wp_fstr, wp_tupRg, wx_reverse, wp_neg, wp_rng1, wp_rng2, evEs, ev_asg, ev_ex, ev_ret, ev_retn, ev_iff, ev_for, ev_pass, ev_brk, ev_cont, ev_nope, wp_no, evT, evAnd, evOr, evTA, evTO, evP, evC, wp_bnd, wp_ret, wp_opt, wp_see, wp_add, wp_sub, wx_mul, wx_fdiv, wx_mod, wx_addS, wx_addT, wx_idxT, wx_idxL, wx_int, wx_abs, wx_lenL, wx_lenT, wx_lenS, wx_strI, wx_tupT, wx_tupL, wx_listT, wx_listL, wx_listS, wx_slcT, wx_slcL, wx_append, wx_pop0, wx_joinL, wx_split, wx_find, wp_newL, wp_setL, then_nx, then_rt, then_bk, then_ct, fin_rt, fin_nx, asg_name, asg_tup, asgs_nil, asgs_cons, le_line, lt_line, cop_eq, cop_ne, cop_lt, cop_le, cop_gt, cop_ge, cop_in, cop_notin, cop_is0, cop_is1, cop_is2, cop_is3, cop_is4, cop_is5, eq_int, eq_bl, eq_str, tru_non, tru_bl, tru_int, tru_tup, tru_ref, tn_non, tn_bl, tn_int, tn_str, tn_tup, tn_ref, isTn, mt_append, mt_pop0, mt_pop, mt_reverse, mt_clear, mt_join, mt_split, mt_find, mt_startswith, mt_partition, wk_tup, wk_str, wk_ref,
    rdL_cons0, rdL_ro0, rdL_succ, rdM_cons0, rdM_succ, List.map_cons, List.map_nil, List.replicate_succ, List.replicate_zero, List.cons_append, List.nil_append, List.append_nil, List.append_assoc, rdL_at, rdL_at0, rdM_at, rdM_at0, set_at, set_at0, List.length_append, Nat.add_assoc, List.getElem?_cons_succ, List.getElem?_cons_zero, List.set_cons_succ, List.set_cons_zero, Nat.reduceSub, Nat.reduceAdd, Option.map_some, Option.bind_some, Option.some.injEq, exists_eq_left', exists_eq_left, exists_eq', exists_and_left, exists_const, D.int.injEq, D.ref.injEq, D.str.injEq, D.bl.injEq, D.tup.injEq, true_and, and_true, List.length_cons, List.length_nil, atI_lit, ixN_lit, Nat.reduceLT, Nat.reduceLeDiff, Nat.reduceEqDiff, Int.reduceLT, Int.reduceLE, Int.reduceEq, Nat.lt_irrefl, Nat.zero_lt_succ, Nat.reduceMul, Int.reduceNeg, Bool.false_eq_true, if_true, if_false, Nat.zero_add, nlit, eq_self, decide_true, decide_false, reduceIte, Bool.or_false, Bool.false_or, Bool.true_or, Bool.or_true, Bool.and_true, Bool.true_and, Bool.and_false, Bool.false_and, Bool.not_true, Bool.not_false, List.all_cons, List.all_nil, List.any_cons, List.any_nil, eeq]
  refine (read_kinds_ok h ok).to fun S2 g2 => ?_
  obtain ⟨Y, rfl⟩ := g2
  simp only [wp_cons, wp_nil, wx_asgi, ev_lit, ev_var, ev_gl, ev_tup, ev_lst, ev_bin, ev_neg, ev_cmp, ev_chain, ev_and, ev_or, ev_not, ev_ifx, ev_idx, ev_slc, ev_call, ev_blt, ev_isi, ev_isis, ev_mth, ev_lc, ei_val, ei_rng1, ei_rng2, ei_zip, ei_enum, wx_addL, ev_fmt, ev_fstr, ev_tupRg1, ev_tupRg2, wp_fmtS, wp_fmtI, wp_fstr, wp_tupRg, wx_reverse, wp_neg, wp_rng1, wp_rng2, evEs, ev_asg, ev_ex, ev_ret, ev_retn, ev_iff, ev_for, ev_pass, ev_brk, ev_cont, ev_nope, wp_no, evT, evAnd, evOr, evTA, evTO, evP, evC, wp_bnd, wp_ret, wp_opt, wp_see, wp_add, wp_sub, wx_mul, wx_fdiv, wx_mod, wx_addS, wx_addT, wx_idxT, wx_idxL, wx_int, wx_abs, wx_lenL, wx_lenT, wx_lenS, wx_strI, wx_tupT, wx_tupL, wx_listT, wx_listL, wx_listS, wx_slcT, wx_slcL, wx_append, wx_pop0, wx_joinL, wx_split, wx_find, wp_newL, wp_setL, then_nx, then_rt, then_bk, then_ct, fin_rt, fin_nx, asg_name, asg_tup, asgs_nil, asgs_cons, le_line, lt_line, cop_eq, cop_ne, cop_lt, cop_le, cop_gt, cop_ge, cop_in, cop_notin, cop_is0, cop_is1, cop_is2, cop_is3, cop_is4, cop_is5, eq_int, eq_bl, eq_str, tru_non, tru_bl, tru_int, tru_tup, tru_ref, tn_non, tn_bl, tn_int, tn_str, tn_tup, tn_ref, isTn, mt_append, mt_pop0, mt_pop, mt_reverse, mt_clear, mt_join, mt_split, mt_find, mt_startswith, mt_partition, wk_tup, wk_str, wk_ref,
    rdL_cons0, rdL_ro0, rdL_succ, rdM_cons0, rdM_succ, List.map_cons, List.map_nil, List.replicate_succ, List.replicate_zero, List.cons_append, List.nil_append, List.append_nil, List.append_assoc, rdL_at, rdL_at0, rdM_at, rdM_at0, set_at, set_at0, List.length_append, Nat.add_assoc, List.getElem?_cons_succ, List.getElem?_cons_zero, List.set_cons_succ, List.set_cons_zero, Nat.reduceSub, Nat.reduceAdd, Option.map_some, Option.bind_some, Option.some.injEq, exists_eq_left', exists_eq_left, exists_eq', exists_and_left, exists_const, D.int.injEq, D.ref.injEq, D.str.injEq, D.bl.injEq, D.tup.injEq, true_and, and_true, List.length_cons, List.length_nil, atI_lit, ixN_lit, Nat.reduceLT, Nat.reduceLeDiff, Nat.reduceEqDiff, Int.reduceLT, Int.reduceLE, Int.reduceEq, Nat.lt_irrefl, Nat.zero_lt_succ, Nat.reduceMul, Int.reduceNeg, Bool.false_eq_true, if_true, if_false, Nat.zero_add, nlit, eq_self, decide_true, decide_false, reduceIte, Bool.or_false, Bool.false_or, Bool.true_or, Bool.or_true, Bool.and_true, Bool.true_and, Bool.and_false, Bool.false_and, Bool.not_true, Bool.not_false, List.all_cons, List.all_nil, List.any_cons, List.any_nil]
  refine (read_numbers_ok (k := k) h.rnumbers h.rdigits h.rdigit h.asc h.integer h.digits (ok.act.mono (by have := ok.wl; omega))).to fun S3 g3 => ?_
  obtain ⟨Z, rfl⟩ := g3
  simp only [wp_cons, wp_nil, wx_asgi, ev_lit, ev_var, ev_gl, ev_tup, ev_lst, ev_bin, ev_neg, ev_cmp, ev_chain, ev_and, ev_or, ev_not, ev_ifx, ev_idx, ev_slc, ev_call, ev_blt, ev_isi, ev_isis, ev_mth, ev_lc, ei_val, ei_rng1, ei_rng2, ei_zip, ei_enum, wx_addL, ev_fmt, ev_fstr, ev_tupRg1, ev_tupRg2, wp_fmtS, wp_fmtI, wp_fstr, wp_tupRg, wx_reverse, wp_neg, wp_rng1, wp_rng2, evEs, ev_asg, ev_ex, ev_ret, ev_retn, ev_iff, ev_for, ev_pass, ev_brk, ev_cont, ev_nope, wp_no, evT, evAnd, evOr, evTA, evTO, evP, evC, wp_bnd, wp_ret, wp_opt, wp_see, wp_add, wp_sub, wx_mul, wx_fdiv, wx_mod, wx_addS, wx_addT, wx_idxT, wx_idxL, wx_int, wx_abs, wx_lenL, wx_lenT, wx_lenS, wx_strI, wx_tupT, wx_tupL, wx_listT, wx_listL, wx_listS, wx_slcT, wx_slcL, wx_append, wx_pop0, wx_joinL, wx_split, wx_find, wp_newL, wp_setL, then_nx, then_rt, then_bk, then_ct, fin_rt, fin_nx, asg_name, asg_tup, asgs_nil, asgs_cons, le_line, lt_line, cop_eq, cop_ne, cop_lt, cop_le, cop_gt, cop_ge, cop_in, cop_notin, cop_is0, cop_is1, cop_is2, cop_is3, cop_is4, cop_is5, eq_int, eq_bl, eq_str, tru_non, tru_bl, tru_int, tru_tup, tru_ref, tn_non, tn_bl, tn_int, tn_str, tn_tup, tn_ref, isTn, mt_append, mt_pop0, mt_pop, mt_reverse, mt_clear, mt_join, mt_split, mt_find, mt_startswith, mt_partition, wk_tup, wk_str, wk_ref,
    rdL_cons0, rdL_ro0, rdL_succ, rdM_cons0, rdM_succ, List.map_cons, List.map_nil, List.replicate_succ, List.replicate_zero, List.cons_append, List.nil_append, List.append_nil, List.append_assoc, rdL_at, rdL_at0, rdM_at, rdM_at0, set_at, set_at0, List.length_append, Nat.add_assoc, List.getElem?_cons_succ, List.getElem?_cons_zero, List.set_cons_succ, List.set_cons_zero, Nat.reduceSub, Nat.reduceAdd, Option.map_some, Option.bind_some, Option.some.injEq, exists_eq_left', exists_eq_left, exists_eq', exists_and_left, exists_const, D.int.injEq, D.ref.injEq, D.str.injEq, D.bl.injEq, D.tup.injEq, true_and, and_true, List.length_cons, List.length_nil, atI_lit, ixN_lit, Nat.reduceLT, Nat.reduceLeDiff, Nat.reduceEqDiff, Int.reduceLT, Int.reduceLE, Int.reduceEq, Nat.lt_irrefl, Nat.zero_lt_succ, Nat.reduceMul, Int.reduceNeg, Bool.false_eq_true, if_true, if_false, Nat.zero_add, nlit, eq_self, decide_true, decide_false, reduceIte, Bool.or_false, Bool.false_or, Bool.true_or, Bool.or_true, Bool.and_true, Bool.true_and, Bool.and_false, Bool.false_and, Bool.not_true, Bool.not_false, List.all_cons, List.all_nil, List.any_cons, List.any_nil]
  have ed : D.tup [D.int W.w, D.int W.l, D.int W.r, D.str W.snd, D.bl W.eag, D.str W.look, D.tup (List.map tupI W.kinds), tupI W.act] = W.d := rfl
  rw [ed]
  refine (is_rule_ok (k := k + 1) h.rule h.integer h.word h.asc h.sends h.looks ok).to fun S4 g4 => ?_
  obtain ⟨V, rfl⟩ := g4
  simp only [wp_cons, wp_nil, wx_asgi, ev_lit, ev_var, ev_gl, ev_tup, ev_lst, ev_bin, ev_neg, ev_cmp, ev_chain, ev_and, ev_or, ev_not, ev_ifx, ev_idx, ev_slc, ev_call, ev_blt, ev_isi, ev_isis, ev_mth, ev_lc, ei_val, ei_rng1, ei_rng2, ei_zip, ei_enum, wx_addL, ev_fmt, ev_fstr, ev_tupRg1, ev_tupRg2, wp_fmtS, wp_fmtI, wp_fstr, wp_tupRg, wx_reverse, wp_neg, wp_rng1, wp_rng2, evEs, ev_asg, ev_ex, ev_ret, ev_retn, ev_iff, ev_for, ev_pass, ev_brk, ev_cont, ev_nope, wp_no, evT, evAnd, evOr, evTA, evTO, evP, evC, wp_bnd, wp_ret, wp_opt, wp_see, wp_add, wp_sub, wx_mul, wx_fdiv, wx_mod, wx_addS, wx_addT, wx_idxT, wx_idxL, wx_int, wx_abs, wx_lenL, wx_lenT, wx_lenS, wx_strI, wx_tupT, wx_tupL, wx_listT, wx_listL, wx_listS, wx_slcT, wx_slcL, wx_append, wx_pop0, wx_joinL, wx_split, wx_find, wp_newL, wp_setL, then_nx, then_rt, then_bk, then_ct, fin_rt, fin_nx, asg_name, asg_tup, asgs_nil, asgs_cons, le_line, lt_line, cop_eq, cop_ne, cop_lt, cop_le, cop_gt, cop_ge, cop_in, cop_notin, cop_is0, cop_is1, cop_is2, cop_is3, cop_is4, cop_is5, eq_int, eq_bl, eq_str, tru_non, tru_bl, tru_int, tru_tup, tru_ref, tn_non, tn_bl, tn_int, tn_str, tn_tup, tn_ref, isTn, mt_append, mt_pop0, mt_pop, mt_reverse, mt_clear, mt_join, mt_split, mt_find, mt_startswith, mt_partition, wk_tup, wk_str, wk_ref,
    rdL_cons0, rdL_ro0, rdL_succ, rdM_cons0, rdM_succ, List.map_cons, List.map_nil, List.replicate_succ, List.replicate_zero, List.cons_append, List.nil_append, List.append_nil, List.append_assoc, rdL_at, rdL_at0, rdM_at, rdM_at0, set_at, set_at0, List.length_append, Nat.add_assoc, List.getElem?_cons_succ, List.getElem?_cons_zero, List.set_cons_succ, List.set_cons_zero, Nat.reduceSub, Nat.reduceAdd, Option.map_some, Option.bind_some, Option.some.injEq, exists_eq_left', exists_eq_left, exists_eq', exists_and_left, exists_const, D.int.injEq, D.ref.injEq, D.str.injEq, D.bl.injEq, D.tup.injEq, true_and, and_true, List.length_cons, List.length_nil, atI_lit, ixN_lit, Nat.reduceLT, Nat.reduceLeDiff, Nat.reduceEqDiff, Int.reduceLT, Int.reduceLE, Int.reduceEq, Nat.lt_irrefl, Nat.zero_lt_succ, Nat.reduceMul, Int.reduceNeg, Bool.false_eq_true, if_true, if_false, Nat.zero_add, nlit, eq_self, decide_true, decide_false, reduceIte, Bool.or_false, Bool.false_or, Bool.true_or, Bool.or_true, Bool.and_true, Bool.true_and, Bool.and_false, Bool.false_and, Bool.not_true, Bool.not_false, List.all_cons, List.all_nil, List.any_cons, List.any_nil]
  exact .app _
end
end My

/-! The law's own comparison; its pool. -/
namespace My
open PySem PySem.Spec PyProof.Rows L2
inductive Flt : Nat → D → Prop
  | non {n : Nat} : Flt n .non
  | bl {n : Nat} (b : Bool) : Flt n (.bl b)
  | int {n : Nat} (i : Int) : Flt n (.int i)
  | str {n : Nat} (x : Str) : Flt n (.str x)
  | tup {n : Nat} {xs : List D} : (∀ x ∈ xs, Flt n x) → Flt (n + 1) (.tup xs)
theorem wx_stepF2 {Γ : Tx} {ρ : Env} {i j : Nat} {b : Ss} {x y : D} {S : Store} {Q : Fl × Env → Store → Prop} : Wp (stepF Γ (.tup [.name i, .name j]) b (.tup [x, y]) ρ) S Q ↔ Wp (evSs Γ b ((ρ.set i (some x)).set j (some y))) S Q := Iff.rfl
theorem zip_tt {S : Store} {xs ys : List D} : zipF S (.tup xs) (.tup ys) = some (wkItems (zipD xs ys)) := rfl
section
variable {ds : List Df} {con : Str → Option D} {fuel : Nat}
theorem same_ok (h : FD ds Lib.df__law_same) : ∀ (n : Nat) {d : D}, Flt n d → ∀ {k : Nat} {S : Store}, Pu (callD ds con fuel (k + n + 1) "_law_same" [d, d]) S (.bl true) := by
  intro n
  induction n with
  | zero =>
    intro d hd k S
    refine pu_call h rfl rfl ?_
    simp only [Lib.df__law_same, Lib.b__law_same]
    cases hd with
    | non => simp only [wp_cons, wp_nil, wx_asgi, ev_lit, ev_var, ev_gl, ev_tup, ev_lst, ev_bin, ev_neg, ev_cmp, ev_chain, ev_and, ev_or, ev_not, ev_ifx, ev_idx, ev_slc, ev_call, ev_blt, ev_isi, ev_isis, ev_mth, ev_lc, ei_val, ei_rng1, ei_rng2, ei_zip, ei_enum, wx_addL, ev_fmt, ev_fstr, ev_tupRg1, ev_tupRg2, wp_fmtS, wp_fmtI, wp_fstr, wp_tupRg, wx_reverse, wp_neg, wp_rng1, wp_rng2, evEs, ev_asg, ev_ex, ev_ret, ev_retn, ev_iff, ev_for, ev_pass, ev_brk, ev_cont, ev_nope, wp_no, evT, evAnd, evOr, evTA, evTO, evP, evC, wp_bnd, wp_ret, wp_opt, wp_see, wp_add, wp_sub, wx_mul, wx_fdiv, wx_mod, wx_addS, wx_addT, wx_idxT, wx_idxL, wx_int, wx_abs, wx_lenL, wx_lenT, wx_lenS, wx_strI, wx_tupT, wx_tupL, wx_listT, wx_listL, wx_listS, wx_slcT, wx_slcL, wx_append, wx_pop0, wx_joinL, wx_split, wx_find, wp_newL, wp_setL, then_nx, then_rt, then_bk, then_ct, fin_rt, fin_nx, asg_name, asg_tup, asgs_nil, asgs_cons, le_line, lt_line, cop_eq, cop_ne, cop_lt, cop_le, cop_gt, cop_ge, cop_in, cop_notin, cop_is0, cop_is1, cop_is2, cop_is3, cop_is4, cop_is5, eq_int, eq_bl, eq_str, tru_non, tru_bl, tru_int, tru_tup, tru_ref, tn_non, tn_bl, tn_int, tn_str, tn_tup, tn_ref, isTn, mt_append, mt_pop0, mt_pop, mt_reverse, mt_clear, mt_join, mt_split, mt_find, mt_startswith, mt_partition, wk_tup, wk_str, wk_ref,
    rdL_cons0, rdL_ro0, rdL_succ, rdM_cons0, rdM_succ, List.map_cons, List.map_nil, List.replicate_succ, List.replicate_zero, List.cons_append, List.nil_append, List.append_nil, List.append_assoc, rdL_at, rdL_at0, rdM_at, rdM_at0, set_at, set_at0, List.length_append, Nat.add_assoc, List.getElem?_cons_succ, List.getElem?_cons_zero, List.set_cons_succ, List.set_cons_zero, Nat.reduceSub, Nat.reduceAdd, Option.map_some, Option.bind_some, Option.some.injEq, exists_eq_left', exists_eq_left, exists_eq', exists_and_left, exists_const, D.int.injEq, D.ref.injEq, D.str.injEq, D.bl.injEq, D.tup.injEq, true_and, and_true, List.length_cons, List.length_nil, atI_lit, ixN_lit, Nat.reduceLT, Nat.reduceLeDiff, Nat.reduceEqDiff, Int.reduceLT, Int.reduceLE, Int.reduceEq, Nat.lt_irrefl, Nat.zero_lt_succ, Nat.reduceMul, Int.reduceNeg, Bool.false_eq_true, if_true, if_false, Nat.zero_add, nlit, eq_self, decide_true, decide_false, reduceIte, Bool.or_false, Bool.false_or, Bool.true_or, Bool.or_true, Bool.and_true, Bool.true_and, Bool.and_false, Bool.false_and, Bool.not_true, Bool.not_false, List.all_cons, List.all_nil, List.any_cons, List.any_nil]; exact .refl _
    | bl b => simp only [wp_cons, wp_nil, wx_asgi, ev_lit, ev_var, ev_gl, ev_tup, ev_lst, ev_bin, ev_neg, ev_cmp, ev_chain, ev_and, ev_or, ev_not, ev_ifx, ev_idx, ev_slc, ev_call, ev_blt, ev_isi, ev_isis, ev_mth, ev_lc, ei_val, ei_rng1, ei_rng2, ei_zip, ei_enum, wx_addL, ev_fmt, ev_fstr, ev_tupRg1, ev_tupRg2, wp_fmtS, wp_fmtI, wp_fstr, wp_tupRg, wx_reverse, wp_neg, wp_rng1, wp_rng2, evEs, ev_asg, ev_ex, ev_ret, ev_retn, ev_iff, ev_for, ev_pass, ev_brk, ev_cont, ev_nope, wp_no, evT, evAnd, evOr, evTA, evTO, evP, evC, wp_bnd, wp_ret, wp_opt, wp_see, wp_add, wp_sub, wx_mul, wx_fdiv, wx_mod, wx_addS, wx_addT, wx_idxT, wx_idxL, wx_int, wx_abs, wx_lenL, wx_lenT, wx_lenS, wx_strI, wx_tupT, wx_tupL, wx_listT, wx_listL, wx_listS, wx_slcT, wx_slcL, wx_append, wx_pop0, wx_joinL, wx_split, wx_find, wp_newL, wp_setL, then_nx, then_rt, then_bk, then_ct, fin_rt, fin_nx, asg_name, asg_tup, asgs_nil, asgs_cons, le_line, lt_line, cop_eq, cop_ne, cop_lt, cop_le, cop_gt, cop_ge, cop_in, cop_notin, cop_is0, cop_is1, cop_is2, cop_is3, cop_is4, cop_is5, eq_int, eq_bl, eq_str, tru_non, tru_bl, tru_int, tru_tup, tru_ref, tn_non, tn_bl, tn_int, tn_str, tn_tup, tn_ref, isTn, mt_append, mt_pop0, mt_pop, mt_reverse, mt_clear, mt_join, mt_split, mt_find, mt_startswith, mt_partition, wk_tup, wk_str, wk_ref,
    rdL_cons0, rdL_ro0, rdL_succ, rdM_cons0, rdM_succ, List.map_cons, List.map_nil, List.replicate_succ, List.replicate_zero, List.cons_append, List.nil_append, List.append_nil, List.append_assoc, rdL_at, rdL_at0, rdM_at, rdM_at0, set_at, set_at0, List.length_append, Nat.add_assoc, List.getElem?_cons_succ, List.getElem?_cons_zero, List.set_cons_succ, List.set_cons_zero, Nat.reduceSub, Nat.reduceAdd, Option.map_some, Option.bind_some, Option.some.injEq, exists_eq_left', exists_eq_left, exists_eq', exists_and_left, exists_const, D.int.injEq, D.ref.injEq, D.str.injEq, D.bl.injEq, D.tup.injEq, true_and, and_true, List.length_cons, List.length_nil, atI_lit, ixN_lit, Nat.reduceLT, Nat.reduceLeDiff, Nat.reduceEqDiff, Int.reduceLT, Int.reduceLE, Int.reduceEq, Nat.lt_irrefl, Nat.zero_lt_succ, Nat.reduceMul, Int.reduceNeg, Bool.false_eq_true, if_true, if_false, Nat.zero_add, nlit, eq_self, decide_true, decide_false, reduceIte, Bool.or_false, Bool.false_or, Bool.true_or, Bool.or_true, Bool.and_true, Bool.true_and, Bool.and_false, Bool.false_and, Bool.not_true, Bool.not_false, List.all_cons, List.all_nil, List.any_cons, List.any_nil]; exact .refl _
    | int i => simp only [wp_cons, wp_nil, wx_asgi, ev_lit, ev_var, ev_gl, ev_tup, ev_lst, ev_bin, ev_neg, ev_cmp, ev_chain, ev_and, ev_or, ev_not, ev_ifx, ev_idx, ev_slc, ev_call, ev_blt, ev_isi, ev_isis, ev_mth, ev_lc, ei_val, ei_rng1, ei_rng2, ei_zip, ei_enum, wx_addL, ev_fmt, ev_fstr, ev_tupRg1, ev_tupRg2, wp_fmtS, wp_fmtI, wp_fstr, wp_tupRg, wx_reverse, wp_neg, wp_rng1, wp_rng2, evEs, ev_asg, ev_ex, ev_ret, ev_retn, ev_iff, ev_for, ev_pass, ev_brk, ev_cont, ev_nope, wp_no, evT, evAnd, evOr, evTA, evTO, evP, evC, wp_bnd, wp_ret, wp_opt, wp_see, wp_add, wp_sub, wx_mul, wx_fdiv, wx_mod, wx_addS, wx_addT, wx_idxT, wx_idxL, wx_int, wx_abs, wx_lenL, wx_lenT, wx_lenS, wx_strI, wx_tupT, wx_tupL, wx_listT, wx_listL, wx_listS, wx_slcT, wx_slcL, wx_append, wx_pop0, wx_joinL, wx_split, wx_find, wp_newL, wp_setL, then_nx, then_rt, then_bk, then_ct, fin_rt, fin_nx, asg_name, asg_tup, asgs_nil, asgs_cons, le_line, lt_line, cop_eq, cop_ne, cop_lt, cop_le, cop_gt, cop_ge, cop_in, cop_notin, cop_is0, cop_is1, cop_is2, cop_is3, cop_is4, cop_is5, eq_int, eq_bl, eq_str, tru_non, tru_bl, tru_int, tru_tup, tru_ref, tn_non, tn_bl, tn_int, tn_str, tn_tup, tn_ref, isTn, mt_append, mt_pop0, mt_pop, mt_reverse, mt_clear, mt_join, mt_split, mt_find, mt_startswith, mt_partition, wk_tup, wk_str, wk_ref,
    rdL_cons0, rdL_ro0, rdL_succ, rdM_cons0, rdM_succ, List.map_cons, List.map_nil, List.replicate_succ, List.replicate_zero, List.cons_append, List.nil_append, List.append_nil, List.append_assoc, rdL_at, rdL_at0, rdM_at, rdM_at0, set_at, set_at0, List.length_append, Nat.add_assoc, List.getElem?_cons_succ, List.getElem?_cons_zero, List.set_cons_succ, List.set_cons_zero, Nat.reduceSub, Nat.reduceAdd, Option.map_some, Option.bind_some, Option.some.injEq, exists_eq_left', exists_eq_left, exists_eq', exists_and_left, exists_const, D.int.injEq, D.ref.injEq, D.str.injEq, D.bl.injEq, D.tup.injEq, true_and, and_true, List.length_cons, List.length_nil, atI_lit, ixN_lit, Nat.reduceLT, Nat.reduceLeDiff, Nat.reduceEqDiff, Int.reduceLT, Int.reduceLE, Int.reduceEq, Nat.lt_irrefl, Nat.zero_lt_succ, Nat.reduceMul, Int.reduceNeg, Bool.false_eq_true, if_true, if_false, Nat.zero_add, nlit, eq_self, decide_true, decide_false, reduceIte, Bool.or_false, Bool.false_or, Bool.true_or, Bool.or_true, Bool.and_true, Bool.true_and, Bool.and_false, Bool.false_and, Bool.not_true, Bool.not_false, List.all_cons, List.all_nil, List.any_cons, List.any_nil]; exact .refl _
    | str x => simp only [wp_cons, wp_nil, wx_asgi, ev_lit, ev_var, ev_gl, ev_tup, ev_lst, ev_bin, ev_neg, ev_cmp, ev_chain, ev_and, ev_or, ev_not, ev_ifx, ev_idx, ev_slc, ev_call, ev_blt, ev_isi, ev_isis, ev_mth, ev_lc, ei_val, ei_rng1, ei_rng2, ei_zip, ei_enum, wx_addL, ev_fmt, ev_fstr, ev_tupRg1, ev_tupRg2, wp_fmtS, wp_fmtI, wp_fstr, wp_tupRg, wx_reverse, wp_neg, wp_rng1, wp_rng2, evEs, ev_asg, ev_ex, ev_ret, ev_retn, ev_iff, ev_for, ev_pass, ev_brk, ev_cont, ev_nope, wp_no, evT, evAnd, evOr, evTA, evTO, evP, evC, wp_bnd, wp_ret, wp_opt, wp_see, wp_add, wp_sub, wx_mul, wx_fdiv, wx_mod, wx_addS, wx_addT, wx_idxT, wx_idxL, wx_int, wx_abs, wx_lenL, wx_lenT, wx_lenS, wx_strI, wx_tupT, wx_tupL, wx_listT, wx_listL, wx_listS, wx_slcT, wx_slcL, wx_append, wx_pop0, wx_joinL, wx_split, wx_find, wp_newL, wp_setL, then_nx, then_rt, then_bk, then_ct, fin_rt, fin_nx, asg_name, asg_tup, asgs_nil, asgs_cons, le_line, lt_line, cop_eq, cop_ne, cop_lt, cop_le, cop_gt, cop_ge, cop_in, cop_notin, cop_is0, cop_is1, cop_is2, cop_is3, cop_is4, cop_is5, eq_int, eq_bl, eq_str, tru_non, tru_bl, tru_int, tru_tup, tru_ref, tn_non, tn_bl, tn_int, tn_str, tn_tup, tn_ref, isTn, mt_append, mt_pop0, mt_pop, mt_reverse, mt_clear, mt_join, mt_split, mt_find, mt_startswith, mt_partition, wk_tup, wk_str, wk_ref,
    rdL_cons0, rdL_ro0, rdL_succ, rdM_cons0, rdM_succ, List.map_cons, List.map_nil, List.replicate_succ, List.replicate_zero, List.cons_append, List.nil_append, List.append_nil, List.append_assoc, rdL_at, rdL_at0, rdM_at, rdM_at0, set_at, set_at0, List.length_append, Nat.add_assoc, List.getElem?_cons_succ, List.getElem?_cons_zero, List.set_cons_succ, List.set_cons_zero, Nat.reduceSub, Nat.reduceAdd, Option.map_some, Option.bind_some, Option.some.injEq, exists_eq_left', exists_eq_left, exists_eq', exists_and_left, exists_const, D.int.injEq, D.ref.injEq, D.str.injEq, D.bl.injEq, D.tup.injEq, true_and, and_true, List.length_cons, List.length_nil, atI_lit, ixN_lit, Nat.reduceLT, Nat.reduceLeDiff, Nat.reduceEqDiff, Int.reduceLT, Int.reduceLE, Int.reduceEq, Nat.lt_irrefl, Nat.zero_lt_succ, Nat.reduceMul, Int.reduceNeg, Bool.false_eq_true, if_true, if_false, Nat.zero_add, nlit, eq_self, decide_true, decide_false, reduceIte, Bool.or_false, Bool.false_or, Bool.true_or, Bool.or_true, Bool.and_true, Bool.true_and, Bool.and_false, Bool.false_and, Bool.not_true, Bool.not_false, List.all_cons, List.all_nil, List.any_cons, List.any_nil]; exact .refl _
  | succ n ih =>
    intro d hd k S
    refine pu_call h rfl rfl ?_
    simp only [Lib.df__law_same, Lib.b__law_same]
    cases hd with
    | non => simp only [wp_cons, wp_nil, wx_asgi, ev_lit, ev_var, ev_gl, ev_tup, ev_lst, ev_bin, ev_neg, ev_cmp, ev_chain, ev_and, ev_or, ev_not, ev_ifx, ev_idx, ev_slc, ev_call, ev_blt, ev_isi, ev_isis, ev_mth, ev_lc, ei_val, ei_rng1, ei_rng2, ei_zip, ei_enum, wx_addL, ev_fmt, ev_fstr, ev_tupRg1, ev_tupRg2, wp_fmtS, wp_fmtI, wp_fstr, wp_tupRg, wx_reverse, wp_neg, wp_rng1, wp_rng2, evEs, ev_asg, ev_ex, ev_ret, ev_retn, ev_iff, ev_for, ev_pass, ev_brk, ev_cont, ev_nope, wp_no, evT, evAnd, evOr, evTA, evTO, evP, evC, wp_bnd, wp_ret, wp_opt, wp_see, wp_add, wp_sub, wx_mul, wx_fdiv, wx_mod, wx_addS, wx_addT, wx_idxT, wx_idxL, wx_int, wx_abs, wx_lenL, wx_lenT, wx_lenS, wx_strI, wx_tupT, wx_tupL, wx_listT, wx_listL, wx_listS, wx_slcT, wx_slcL, wx_append, wx_pop0, wx_joinL, wx_split, wx_find, wp_newL, wp_setL, then_nx, then_rt, then_bk, then_ct, fin_rt, fin_nx, asg_name, asg_tup, asgs_nil, asgs_cons, le_line, lt_line, cop_eq, cop_ne, cop_lt, cop_le, cop_gt, cop_ge, cop_in, cop_notin, cop_is0, cop_is1, cop_is2, cop_is3, cop_is4, cop_is5, eq_int, eq_bl, eq_str, tru_non, tru_bl, tru_int, tru_tup, tru_ref, tn_non, tn_bl, tn_int, tn_str, tn_tup, tn_ref, isTn, mt_append, mt_pop0, mt_pop, mt_reverse, mt_clear, mt_join, mt_split, mt_find, mt_startswith, mt_partition, wk_tup, wk_str, wk_ref,
    rdL_cons0, rdL_ro0, rdL_succ, rdM_cons0, rdM_succ, List.map_cons, List.map_nil, List.replicate_succ, List.replicate_zero, List.cons_append, List.nil_append, List.append_nil, List.append_assoc, rdL_at, rdL_at0, rdM_at, rdM_at0, set_at, set_at0, List.length_append, Nat.add_assoc, List.getElem?_cons_succ, List.getElem?_cons_zero, List.set_cons_succ, List.set_cons_zero, Nat.reduceSub, Nat.reduceAdd, Option.map_some, Option.bind_some, Option.some.injEq, exists_eq_left', exists_eq_left, exists_eq', exists_and_left, exists_const, D.int.injEq, D.ref.injEq, D.str.injEq, D.bl.injEq, D.tup.injEq, true_and, and_true, List.length_cons, List.length_nil, atI_lit, ixN_lit, Nat.reduceLT, Nat.reduceLeDiff, Nat.reduceEqDiff, Int.reduceLT, Int.reduceLE, Int.reduceEq, Nat.lt_irrefl, Nat.zero_lt_succ, Nat.reduceMul, Int.reduceNeg, Bool.false_eq_true, if_true, if_false, Nat.zero_add, nlit, eq_self, decide_true, decide_false, reduceIte, Bool.or_false, Bool.false_or, Bool.true_or, Bool.or_true, Bool.and_true, Bool.true_and, Bool.and_false, Bool.false_and, Bool.not_true, Bool.not_false, List.all_cons, List.all_nil, List.any_cons, List.any_nil]; exact .refl _
    | bl b => simp only [wp_cons, wp_nil, wx_asgi, ev_lit, ev_var, ev_gl, ev_tup, ev_lst, ev_bin, ev_neg, ev_cmp, ev_chain, ev_and, ev_or, ev_not, ev_ifx, ev_idx, ev_slc, ev_call, ev_blt, ev_isi, ev_isis, ev_mth, ev_lc, ei_val, ei_rng1, ei_rng2, ei_zip, ei_enum, wx_addL, ev_fmt, ev_fstr, ev_tupRg1, ev_tupRg2, wp_fmtS, wp_fmtI, wp_fstr, wp_tupRg, wx_reverse, wp_neg, wp_rng1, wp_rng2, evEs, ev_asg, ev_ex, ev_ret, ev_retn, ev_iff, ev_for, ev_pass, ev_brk, ev_cont, ev_nope, wp_no, evT, evAnd, evOr, evTA, evTO, evP, evC, wp_bnd, wp_ret, wp_opt, wp_see, wp_add, wp_sub, wx_mul, wx_fdiv, wx_mod, wx_addS, wx_addT, wx_idxT, wx_idxL, wx_int, wx_abs, wx_lenL, wx_lenT, wx_lenS, wx_strI, wx_tupT, wx_tupL, wx_listT, wx_listL, wx_listS, wx_slcT, wx_slcL, wx_append, wx_pop0, wx_joinL, wx_split, wx_find, wp_newL, wp_setL, then_nx, then_rt, then_bk, then_ct, fin_rt, fin_nx, asg_name, asg_tup, asgs_nil, asgs_cons, le_line, lt_line, cop_eq, cop_ne, cop_lt, cop_le, cop_gt, cop_ge, cop_in, cop_notin, cop_is0, cop_is1, cop_is2, cop_is3, cop_is4, cop_is5, eq_int, eq_bl, eq_str, tru_non, tru_bl, tru_int, tru_tup, tru_ref, tn_non, tn_bl, tn_int, tn_str, tn_tup, tn_ref, isTn, mt_append, mt_pop0, mt_pop, mt_reverse, mt_clear, mt_join, mt_split, mt_find, mt_startswith, mt_partition, wk_tup, wk_str, wk_ref,
    rdL_cons0, rdL_ro0, rdL_succ, rdM_cons0, rdM_succ, List.map_cons, List.map_nil, List.replicate_succ, List.replicate_zero, List.cons_append, List.nil_append, List.append_nil, List.append_assoc, rdL_at, rdL_at0, rdM_at, rdM_at0, set_at, set_at0, List.length_append, Nat.add_assoc, List.getElem?_cons_succ, List.getElem?_cons_zero, List.set_cons_succ, List.set_cons_zero, Nat.reduceSub, Nat.reduceAdd, Option.map_some, Option.bind_some, Option.some.injEq, exists_eq_left', exists_eq_left, exists_eq', exists_and_left, exists_const, D.int.injEq, D.ref.injEq, D.str.injEq, D.bl.injEq, D.tup.injEq, true_and, and_true, List.length_cons, List.length_nil, atI_lit, ixN_lit, Nat.reduceLT, Nat.reduceLeDiff, Nat.reduceEqDiff, Int.reduceLT, Int.reduceLE, Int.reduceEq, Nat.lt_irrefl, Nat.zero_lt_succ, Nat.reduceMul, Int.reduceNeg, Bool.false_eq_true, if_true, if_false, Nat.zero_add, nlit, eq_self, decide_true, decide_false, reduceIte, Bool.or_false, Bool.false_or, Bool.true_or, Bool.or_true, Bool.and_true, Bool.true_and, Bool.and_false, Bool.false_and, Bool.not_true, Bool.not_false, List.all_cons, List.all_nil, List.any_cons, List.any_nil]; exact .refl _
    | int i => simp only [wp_cons, wp_nil, wx_asgi, ev_lit, ev_var, ev_gl, ev_tup, ev_lst, ev_bin, ev_neg, ev_cmp, ev_chain, ev_and, ev_or, ev_not, ev_ifx, ev_idx, ev_slc, ev_call, ev_blt, ev_isi, ev_isis, ev_mth, ev_lc, ei_val, ei_rng1, ei_rng2, ei_zip, ei_enum, wx_addL, ev_fmt, ev_fstr, ev_tupRg1, ev_tupRg2, wp_fmtS, wp_fmtI, wp_fstr, wp_tupRg, wx_reverse, wp_neg, wp_rng1, wp_rng2, evEs, ev_asg, ev_ex, ev_ret, ev_retn, ev_iff, ev_for, ev_pass, ev_brk, ev_cont, ev_nope, wp_no, evT, evAnd, evOr, evTA, evTO, evP, evC, wp_bnd, wp_ret, wp_opt, wp_see, wp_add, wp_sub, wx_mul, wx_fdiv, wx_mod, wx_addS, wx_addT, wx_idxT, wx_idxL, wx_int, wx_abs, wx_lenL, wx_lenT, wx_lenS, wx_strI, wx_tupT, wx_tupL, wx_listT, wx_listL, wx_listS, wx_slcT, wx_slcL, wx_append, wx_pop0, wx_joinL, wx_split, wx_find, wp_newL, wp_setL, then_nx, then_rt, then_bk, then_ct, fin_rt, fin_nx, asg_name, asg_tup, asgs_nil, asgs_cons, le_line, lt_line, cop_eq, cop_ne, cop_lt, cop_le, cop_gt, cop_ge, cop_in, cop_notin, cop_is0, cop_is1, cop_is2, cop_is3, cop_is4, cop_is5, eq_int, eq_bl, eq_str, tru_non, tru_bl, tru_int, tru_tup, tru_ref, tn_non, tn_bl, tn_int, tn_str, tn_tup, tn_ref, isTn, mt_append, mt_pop0, mt_pop, mt_reverse, mt_clear, mt_join, mt_split, mt_find, mt_startswith, mt_partition, wk_tup, wk_str, wk_ref,
    rdL_cons0, rdL_ro0, rdL_succ, rdM_cons0, rdM_succ, List.map_cons, List.map_nil, List.replicate_succ, List.replicate_zero, List.cons_append, List.nil_append, List.append_nil, List.append_assoc, rdL_at, rdL_at0, rdM_at, rdM_at0, set_at, set_at0, List.length_append, Nat.add_assoc, List.getElem?_cons_succ, List.getElem?_cons_zero, List.set_cons_succ, List.set_cons_zero, Nat.reduceSub, Nat.reduceAdd, Option.map_some, Option.bind_some, Option.some.injEq, exists_eq_left', exists_eq_left, exists_eq', exists_and_left, exists_const, D.int.injEq, D.ref.injEq, D.str.injEq, D.bl.injEq, D.tup.injEq, true_and, and_true, List.length_cons, List.length_nil, atI_lit, ixN_lit, Nat.reduceLT, Nat.reduceLeDiff, Nat.reduceEqDiff, Int.reduceLT, Int.reduceLE, Int.reduceEq, Nat.lt_irrefl, Nat.zero_lt_succ, Nat.reduceMul, Int.reduceNeg, Bool.false_eq_true, if_true, if_false, Nat.zero_add, nlit, eq_self, decide_true, decide_false, reduceIte, Bool.or_false, Bool.false_or, Bool.true_or, Bool.or_true, Bool.and_true, Bool.true_and, Bool.and_false, Bool.false_and, Bool.not_true, Bool.not_false, List.all_cons, List.all_nil, List.any_cons, List.any_nil]; exact .refl _
    | str x => simp only [wp_cons, wp_nil, wx_asgi, ev_lit, ev_var, ev_gl, ev_tup, ev_lst, ev_bin, ev_neg, ev_cmp, ev_chain, ev_and, ev_or, ev_not, ev_ifx, ev_idx, ev_slc, ev_call, ev_blt, ev_isi, ev_isis, ev_mth, ev_lc, ei_val, ei_rng1, ei_rng2, ei_zip, ei_enum, wx_addL, ev_fmt, ev_fstr, ev_tupRg1, ev_tupRg2, wp_fmtS, wp_fmtI, wp_fstr, wp_tupRg, wx_reverse, wp_neg, wp_rng1, wp_rng2, evEs, ev_asg, ev_ex, ev_ret, ev_retn, ev_iff, ev_for, ev_pass, ev_brk, ev_cont, ev_nope, wp_no, evT, evAnd, evOr, evTA, evTO, evP, evC, wp_bnd, wp_ret, wp_opt, wp_see, wp_add, wp_sub, wx_mul, wx_fdiv, wx_mod, wx_addS, wx_addT, wx_idxT, wx_idxL, wx_int, wx_abs, wx_lenL, wx_lenT, wx_lenS, wx_strI, wx_tupT, wx_tupL, wx_listT, wx_listL, wx_listS, wx_slcT, wx_slcL, wx_append, wx_pop0, wx_joinL, wx_split, wx_find, wp_newL, wp_setL, then_nx, then_rt, then_bk, then_ct, fin_rt, fin_nx, asg_name, asg_tup, asgs_nil, asgs_cons, le_line, lt_line, cop_eq, cop_ne, cop_lt, cop_le, cop_gt, cop_ge, cop_in, cop_notin, cop_is0, cop_is1, cop_is2, cop_is3, cop_is4, cop_is5, eq_int, eq_bl, eq_str, tru_non, tru_bl, tru_int, tru_tup, tru_ref, tn_non, tn_bl, tn_int, tn_str, tn_tup, tn_ref, isTn, mt_append, mt_pop0, mt_pop, mt_reverse, mt_clear, mt_join, mt_split, mt_find, mt_startswith, mt_partition, wk_tup, wk_str, wk_ref,
    rdL_cons0, rdL_ro0, rdL_succ, rdM_cons0, rdM_succ, List.map_cons, List.map_nil, List.replicate_succ, List.replicate_zero, List.cons_append, List.nil_append, List.append_nil, List.append_assoc, rdL_at, rdL_at0, rdM_at, rdM_at0, set_at, set_at0, List.length_append, Nat.add_assoc, List.getElem?_cons_succ, List.getElem?_cons_zero, List.set_cons_succ, List.set_cons_zero, Nat.reduceSub, Nat.reduceAdd, Option.map_some, Option.bind_some, Option.some.injEq, exists_eq_left', exists_eq_left, exists_eq', exists_and_left, exists_const, D.int.injEq, D.ref.injEq, D.str.injEq, D.bl.injEq, D.tup.injEq, true_and, and_true, List.length_cons, List.length_nil, atI_lit, ixN_lit, Nat.reduceLT, Nat.reduceLeDiff, Nat.reduceEqDiff, Int.reduceLT, Int.reduceLE, Int.reduceEq, Nat.lt_irrefl, Nat.zero_lt_succ, Nat.reduceMul, Int.reduceNeg, Bool.false_eq_true, if_true, if_false, Nat.zero_add, nlit, eq_self, decide_true, decide_false, reduceIte, Bool.or_false, Bool.false_or, Bool.true_or, Bool.or_true, Bool.and_true, Bool.true_and, Bool.and_false, Bool.false_and, Bool.not_true, Bool.not_false, List.all_cons, List.all_nil, List.any_cons, List.any_nil]; exact .refl _
    | tup hx =>
      rename_i xs
      simp only [wp_cons, wp_nil, wx_asgi, ev_lit, ev_var, ev_gl, ev_tup, ev_lst, ev_bin, ev_neg, ev_cmp, ev_chain, ev_and, ev_or, ev_not, ev_ifx, ev_idx, ev_slc, ev_call, ev_blt, ev_isi, ev_isis, ev_mth, ev_lc, ei_val, ei_rng1, ei_rng2, ei_zip, ei_enum, wx_addL, ev_fmt, ev_fstr, ev_tupRg1, ev_tupRg2, wp_fmtS, wp_fmtI, wp_fstr, wp_tupRg, wx_reverse, wp_neg, wp_rng1, wp_rng2, evEs, ev_asg, ev_ex, ev_ret, ev_retn, ev_iff, ev_for, ev_pass, ev_brk, ev_cont, ev_nope, wp_no, evT, evAnd, evOr, evTA, evTO, evP, evC, wp_bnd, wp_ret, wp_opt, wp_see, wp_add, wp_sub, wx_mul, wx_fdiv, wx_mod, wx_addS, wx_addT, wx_idxT, wx_idxL, wx_int, wx_abs, wx_lenL, wx_lenT, wx_lenS, wx_strI, wx_tupT, wx_tupL, wx_listT, wx_listL, wx_listS, wx_slcT, wx_slcL, wx_append, wx_pop0, wx_joinL, wx_split, wx_find, wp_newL, wp_setL, then_nx, then_rt, then_bk, then_ct, fin_rt, fin_nx, asg_name, asg_tup, asgs_nil, asgs_cons, le_line, lt_line, cop_eq, cop_ne, cop_lt, cop_le, cop_gt, cop_ge, cop_in, cop_notin, cop_is0, cop_is1, cop_is2, cop_is3, cop_is4, cop_is5, eq_int, eq_bl, eq_str, tru_non, tru_bl, tru_int, tru_tup, tru_ref, tn_non, tn_bl, tn_int, tn_str, tn_tup, tn_ref, isTn, mt_append, mt_pop0, mt_pop, mt_reverse, mt_clear, mt_join, mt_split, mt_find, mt_startswith, mt_partition, wk_tup, wk_str, wk_ref,
    rdL_cons0, rdL_ro0, rdL_succ, rdM_cons0, rdM_succ, List.map_cons, List.map_nil, List.replicate_succ, List.replicate_zero, List.cons_append, List.nil_append, List.append_nil, List.append_assoc, rdL_at, rdL_at0, rdM_at, rdM_at0, set_at, set_at0, List.length_append, Nat.add_assoc, List.getElem?_cons_succ, List.getElem?_cons_zero, List.set_cons_succ, List.set_cons_zero, Nat.reduceSub, Nat.reduceAdd, Option.map_some, Option.bind_some, Option.some.injEq, exists_eq_left', exists_eq_left, exists_eq', exists_and_left, exists_const, D.int.injEq, D.ref.injEq, D.str.injEq, D.bl.injEq, D.tup.injEq, true_and, and_true, List.length_cons, List.length_nil, atI_lit, ixN_lit, Nat.reduceLT, Nat.reduceLeDiff, Nat.reduceEqDiff, Int.reduceLT, Int.reduceLE, Int.reduceEq, Nat.lt_irrefl, Nat.zero_lt_succ, Nat.reduceMul, Int.reduceNeg, Bool.false_eq_true, if_true, if_false, Nat.zero_add, nlit, eq_self, decide_true, decide_false, reduceIte, Bool.or_false, Bool.false_or, Bool.true_or, Bool.or_true, Bool.and_true, Bool.true_and, Bool.and_false, Bool.false_and, Bool.not_true, Bool.not_false, List.all_cons, List.all_nil, List.any_cons, List.any_nil, zip_tt]
      obtain ⟨I, hI⟩ : ∃ I : Nat → Env → Store → Prop, ∀ i ρ S', I i ρ S' ↔ (∃ (a2 a3 : Option D), ρ = [some (.tup xs), some (.tup xs), a2, a3] ∧ Gr S S') := ⟨_, fun _ _ _ => Iff.rfl⟩
      refine loop_wp (w := wkItems _) I (fun i ρ S1 hi hh => ?_) (fun ρ S1 hh => ?_) _ 0 _ _ (by simp [wkItems]) ((hI _ _ _).mpr ⟨none, none, rfl, .refl _⟩)
      · obtain ⟨a2, a3, rfl, g⟩ := (hI _ _ _).mp hh
        have hi : i < xs.length := by simpa [wkItems, zipD] using hi
        refine ⟨.tup [xs[i], xs[i]], by simp [wkItems, zipD, List.getElem?_eq_getElem hi], ?_⟩
        rw [wx_stepF2]
        simp only [wp_cons, wp_nil, wx_asgi, ev_lit, ev_var, ev_gl, ev_tup, ev_lst, ev_bin, ev_neg, ev_cmp, ev_chain, ev_and, ev_or, ev_not, ev_ifx, ev_idx, ev_slc, ev_call, ev_blt, ev_isi, ev_isis, ev_mth, ev_lc, ei_val, ei_rng1, ei_rng2, ei_zip, ei_enum, wx_addL, ev_fmt, ev_fstr, ev_tupRg1, ev_tupRg2, wp_fmtS, wp_fmtI, wp_fstr, wp_tupRg, wx_reverse, wp_neg, wp_rng1, wp_rng2, evEs, ev_asg, ev_ex, ev_ret, ev_retn, ev_iff, ev_for, ev_pass, ev_brk, ev_cont, ev_nope, wp_no, evT, evAnd, evOr, evTA, evTO, evP, evC, wp_bnd, wp_ret, wp_opt, wp_see, wp_add, wp_sub, wx_mul, wx_fdiv, wx_mod, wx_addS, wx_addT, wx_idxT, wx_idxL, wx_int, wx_abs, wx_lenL, wx_lenT, wx_lenS, wx_strI, wx_tupT, wx_tupL, wx_listT, wx_listL, wx_listS, wx_slcT, wx_slcL, wx_append, wx_pop0, wx_joinL, wx_split, wx_find, wp_newL, wp_setL, then_nx, then_rt, then_bk, then_ct, fin_rt, fin_nx, asg_name, asg_tup, asgs_nil, asgs_cons, le_line, lt_line, cop_eq, cop_ne, cop_lt, cop_le, cop_gt, cop_ge, cop_in, cop_notin, cop_is0, cop_is1, cop_is2, cop_is3, cop_is4, cop_is5, eq_int, eq_bl, eq_str, tru_non, tru_bl, tru_int, tru_tup, tru_ref, tn_non, tn_bl, tn_int, tn_str, tn_tup, tn_ref, isTn, mt_append, mt_pop0, mt_pop, mt_reverse, mt_clear, mt_join, mt_split, mt_find, mt_startswith, mt_partition, wk_tup, wk_str, wk_ref,
    rdL_cons0, rdL_ro0, rdL_succ, rdM_cons0, rdM_succ, List.map_cons, List.map_nil, List.replicate_succ, List.replicate_zero, List.cons_append, List.nil_append, List.append_nil, List.append_assoc, rdL_at, rdL_at0, rdM_at, rdM_at0, set_at, set_at0, List.length_append, Nat.add_assoc, List.getElem?_cons_succ, List.getElem?_cons_zero, List.set_cons_succ, List.set_cons_zero, Nat.reduceSub, Nat.reduceAdd, Option.map_some, Option.bind_some, Option.some.injEq, exists_eq_left', exists_eq_left, exists_eq', exists_and_left, exists_const, D.int.injEq, D.ref.injEq, D.str.injEq, D.bl.injEq, D.tup.injEq, true_and, and_true, List.length_cons, List.length_nil, atI_lit, ixN_lit, Nat.reduceLT, Nat.reduceLeDiff, Nat.reduceEqDiff, Int.reduceLT, Int.reduceLE, Int.reduceEq, Nat.lt_irrefl, Nat.zero_lt_succ, Nat.reduceMul, Int.reduceNeg, Bool.false_eq_true, if_true, if_false, Nat.zero_add, nlit, eq_self, decide_true, decide_false, reduceIte, Bool.or_false, Bool.false_or, Bool.true_or, Bool.or_true, Bool.and_true, Bool.true_and, Bool.and_false, Bool.false_and, Bool.not_true, Bool.not_false, List.all_cons, List.all_nil, List.any_cons, List.any_nil]
        refine (ih (hx _ (List.getElem_mem hi))).to fun S2 g2 => ?_
        simp only [wp_cons, wp_nil, wx_asgi, ev_lit, ev_var, ev_gl, ev_tup, ev_lst, ev_bin, ev_neg, ev_cmp, ev_chain, ev_and, ev_or, ev_not, ev_ifx, ev_idx, ev_slc, ev_call, ev_blt, ev_isi, ev_isis, ev_mth, ev_lc, ei_val, ei_rng1, ei_rng2, ei_zip, ei_enum, wx_addL, ev_fmt, ev_fstr, ev_tupRg1, ev_tupRg2, wp_fmtS, wp_fmtI, wp_fstr, wp_tupRg, wx_reverse, wp_neg, wp_rng1, wp_rng2, evEs, ev_asg, ev_ex, ev_ret, ev_retn, ev_iff, ev_for, ev_pass, ev_brk, ev_cont, ev_nope, wp_no, evT, evAnd, evOr, evTA, evTO, evP, evC, wp_bnd, wp_ret, wp_opt, wp_see, wp_add, wp_sub, wx_mul, wx_fdiv, wx_mod, wx_addS, wx_addT, wx_idxT, wx_idxL, wx_int, wx_abs, wx_lenL, wx_lenT, wx_lenS, wx_strI, wx_tupT, wx_tupL, wx_listT, wx_listL, wx_listS, wx_slcT, wx_slcL, wx_append, wx_pop0, wx_joinL, wx_split, wx_find, wp_newL, wp_setL, then_nx, then_rt, then_bk, then_ct, fin_rt, fin_nx, asg_name, asg_tup, asgs_nil, asgs_cons, le_line, lt_line, cop_eq, cop_ne, cop_lt, cop_le, cop_gt, cop_ge, cop_in, cop_notin, cop_is0, cop_is1, cop_is2, cop_is3, cop_is4, cop_is5, eq_int, eq_bl, eq_str, tru_non, tru_bl, tru_int, tru_tup, tru_ref, tn_non, tn_bl, tn_int, tn_str, tn_tup, tn_ref, isTn, mt_append, mt_pop0, mt_pop, mt_reverse, mt_clear, mt_join, mt_split, mt_find, mt_startswith, mt_partition, wk_tup, wk_str, wk_ref,
    rdL_cons0, rdL_ro0, rdL_succ, rdM_cons0, rdM_succ, List.map_cons, List.map_nil, List.replicate_succ, List.replicate_zero, List.cons_append, List.nil_append, List.append_nil, List.append_assoc, rdL_at, rdL_at0, rdM_at, rdM_at0, set_at, set_at0, List.length_append, Nat.add_assoc, List.getElem?_cons_succ, List.getElem?_cons_zero, List.set_cons_succ, List.set_cons_zero, Nat.reduceSub, Nat.reduceAdd, Option.map_some, Option.bind_some, Option.some.injEq, exists_eq_left', exists_eq_left, exists_eq', exists_and_left, exists_const, D.int.injEq, D.ref.injEq, D.str.injEq, D.bl.injEq, D.tup.injEq, true_and, and_true, List.length_cons, List.length_nil, atI_lit, ixN_lit, Nat.reduceLT, Nat.reduceLeDiff, Nat.reduceEqDiff, Int.reduceLT, Int.reduceLE, Int.reduceEq, Nat.lt_irrefl, Nat.zero_lt_succ, Nat.reduceMul, Int.reduceNeg, Bool.false_eq_true, if_true, if_false, Nat.zero_add, nlit, eq_self, decide_true, decide_false, reduceIte, Bool.or_false, Bool.false_or, Bool.true_or, Bool.or_true, Bool.and_true, Bool.true_and, Bool.and_false, Bool.false_and, Bool.not_true, Bool.not_false, List.all_cons, List.all_nil, List.any_cons, List.any_nil]
        exact (hI _ _ _).mpr ⟨_, _, rfl, g.trans g2⟩
      · obtain ⟨a2, a3, rfl, g⟩ := (hI _ _ _).mp hh
        refine ⟨rfl, ?_⟩
        simp only [wp_cons, wp_nil, wx_asgi, ev_lit, ev_var, ev_gl, ev_tup, ev_lst, ev_bin, ev_neg, ev_cmp, ev_chain, ev_and, ev_or, ev_not, ev_ifx, ev_idx, ev_slc, ev_call, ev_blt, ev_isi, ev_isis, ev_mth, ev_lc, ei_val, ei_rng1, ei_rng2, ei_zip, ei_enum, wx_addL, ev_fmt, ev_fstr, ev_tupRg1, ev_tupRg2, wp_fmtS, wp_fmtI, wp_fstr, wp_tupRg, wx_reverse, wp_neg, wp_rng1, wp_rng2, evEs, ev_asg, ev_ex, ev_ret, ev_retn, ev_iff, ev_for, ev_pass, ev_brk, ev_cont, ev_nope, wp_no, evT, evAnd, evOr, evTA, evTO, evP, evC, wp_bnd, wp_ret, wp_opt, wp_see, wp_add, wp_sub, wx_mul, wx_fdiv, wx_mod, wx_addS, wx_addT, wx_idxT, wx_idxL, wx_int, wx_abs, wx_lenL, wx_lenT, wx_lenS, wx_strI, wx_tupT, wx_tupL, wx_listT, wx_listL, wx_listS, wx_slcT, wx_slcL, wx_append, wx_pop0, wx_joinL, wx_split, wx_find, wp_newL, wp_setL, then_nx, then_rt, then_bk, then_ct, fin_rt, fin_nx, asg_name, asg_tup, asgs_nil, asgs_cons, le_line, lt_line, cop_eq, cop_ne, cop_lt, cop_le, cop_gt, cop_ge, cop_in, cop_notin, cop_is0, cop_is1, cop_is2, cop_is3, cop_is4, cop_is5, eq_int, eq_bl, eq_str, tru_non, tru_bl, tru_int, tru_tup, tru_ref, tn_non, tn_bl, tn_int, tn_str, tn_tup, tn_ref, isTn, mt_append, mt_pop0, mt_pop, mt_reverse, mt_clear, mt_join, mt_split, mt_find, mt_startswith, mt_partition, wk_tup, wk_str, wk_ref,
    rdL_cons0, rdL_ro0, rdL_succ, rdM_cons0, rdM_succ, List.map_cons, List.map_nil, List.replicate_succ, List.replicate_zero, List.cons_append, List.nil_append, List.append_nil, List.append_assoc, rdL_at, rdL_at0, rdM_at, rdM_at0, set_at, set_at0, List.length_append, Nat.add_assoc, List.getElem?_cons_succ, List.getElem?_cons_zero, List.set_cons_succ, List.set_cons_zero, Nat.reduceSub, Nat.reduceAdd, Option.map_some, Option.bind_some, Option.some.injEq, exists_eq_left', exists_eq_left, exists_eq', exists_and_left, exists_const, D.int.injEq, D.ref.injEq, D.str.injEq, D.bl.injEq, D.tup.injEq, true_and, and_true, List.length_cons, List.length_nil, atI_lit, ixN_lit, Nat.reduceLT, Nat.reduceLeDiff, Nat.reduceEqDiff, Int.reduceLT, Int.reduceLE, Int.reduceEq, Nat.lt_irrefl, Nat.zero_lt_succ, Nat.reduceMul, Int.reduceNeg, Bool.false_eq_true, if_true, if_false, Nat.zero_add, nlit, eq_self, decide_true, decide_false, reduceIte, Bool.or_false, Bool.false_or, Bool.true_or, Bool.or_true, Bool.and_true, Bool.true_and, Bool.and_false, Bool.false_and, Bool.not_true, Bool.not_false, List.all_cons, List.all_nil, List.any_cons, List.any_nil]
        exact g
end
theorem flt_tupI {n : Nat} (xs : List Int) : Flt (n + 1) (tupI xs) := .tup fun x hx => by
  obtain ⟨i, _, rfl⟩ := List.mem_map.mp hx
  exact .int i
theorem flt_W (W : Wy) : Flt 3 W.d := .tup fun x hx => by
  simp only [List.mem_cons, List.not_mem_nil, or_false] at hx
  rcases hx with rfl | rfl | rfl | rfl | rfl | rfl | rfl | rfl
  · exact .int _
  · exact .int _
  · exact .int _
  · exact .str _
  · exact .bl _
  · exact .str _
  · exact .tup fun y hy => by
      obtain ⟨k, _, rfl⟩ := List.mem_map.mp hy
      exact flt_tupI k
  · exact flt_tupI _
/-! ### the pool -/
def absI (i : Int) : Int := if i < 0 then -i else i
def absD (d : D) : D := match d with
  | .int i => .int (absI i)
  | d => d
def fltI (p : Int → Bool) (xs : List Int) : List Int := xs.filter p
section
variable {ds : List Df} {con : Str → Option D} {fuel k : Nat}
/-- a list walked, the store not touched -/
theorem comp_pure {n : Nat} {xs : List D} {f : D → M (Option D)} {g : D → D} {S : Store} {Q : D → Store → Prop} (hr : rdL S n = some xs) (hl : xs.length ≤ 1000) (h : ∀ x ∈ xs, ∀ {Q : Option D → Store → Prop}, Q (some (g x)) S → Wp (f x) S Q)
    (q : Q (.ref S.length) (S ++ [.lst (xs.map g)])) : Wp (compF (wkList n xs.length) f (wkList n xs.length).n 0 []) S Q := by
  refine comp_wp (w := wkList n xs.length) (fun i acc S1 => acc = (xs.take i).map g ∧ S1 = S) (fun i acc S1 hi h1 => ?_) (fun acc S1 h1 => ?_) _ 0 [] S (by simp [wkList]) ⟨by simp, rfl⟩
  · have hi : i < xs.length := hi
    obtain ⟨rfl, rfl⟩ := h1
    refine ⟨xs[i], by simp only [wkList, hr, Option.bind_some]; exact List.getElem?_eq_getElem hi, h xs[i] (List.getElem_mem hi) ⟨?_, ?_, rfl⟩⟩
    · simp only [List.length_map, List.length_take]
      exact Nat.lt_of_le_of_lt (by omega : _ ≤ 1000) (by decide)
    · rw [List.take_succ_eq_append_getElem hi, List.map_append]
      rfl
  · obtain ⟨rfl, rfl⟩ := h1
    have e : (wkList n xs.length).n = xs.length := rfl
    refine ⟨by simp [wkList, hr], ?_⟩
    rw [e, List.take_length]
    exact q
/-- those that pass a test -/
theorem comp_filter {Γ : Tx} {ρ : Env} {v : Nat} {nm : Str} {cond : E} {n : Nat} {xs : List Int} {p : Int → Bool} (hv : v < ρ.length) (hl : xs.length ≤ 1000) {S : Store} (hr : rdL S n = some (xs.map .int))
    (hc : ∀ i ∈ xs, ∀ {S Q}, Q (p i) S → Wp (evT Γ cond ((ρ.set v none).set v (some (.int i)))) S Q) {Q : D → Store → Prop} (q : Q (.ref S.length) (S ++ [.lst ((xs.filter p).map .int)])) :
    Wp (compF (wkList n (xs.map D.int).length) (itemF Γ (.var v) (.name v) (.cons cond .nil) [(nm, v)] ρ) (wkList n (xs.map D.int).length).n 0 []) S Q := by
  refine comp_wp (w := wkList n (xs.map D.int).length) (fun i acc S' => acc = ((xs.take i).filter p).map .int ∧ S' = S) (fun i acc S1 hi h1 => ?_) (fun acc S1 h1 => ?_) _ 0 [] _ (by simp [wkList]) ⟨by simp, rfl⟩
  · obtain ⟨rfl, rfl⟩ := h1
    have hi : i < xs.length := by simpa [wkList] using hi
    refine ⟨.int xs[i], by simp [wkList, hr, List.getElem?_eq_getElem hi], ?_⟩
    rw [wx_itemF]
    simp only [evC, List.map_cons, List.map_nil, wipeD]
    refine hc xs[i] (List.getElem_mem hi) ?_
    have ev : ((ρ.set v none).set v (some (D.int xs[i])))[v]? = some (some (.int xs[i])) := by
      rw [List.getElem?_set_self (by simpa using hv)]
    refine ⟨fun hp => ?_, fun hp => ?_⟩
    · simp only [wp_cons, wp_nil, wx_asgi, ev_lit, ev_var, ev_gl, ev_tup, ev_lst, ev_bin, ev_neg, ev_cmp, ev_chain, ev_and, ev_or, ev_not, ev_ifx, ev_idx, ev_slc, ev_call, ev_blt, ev_isi, ev_isis, ev_mth, ev_lc, ei_val, ei_rng1, ei_rng2, ei_zip, ei_enum, wx_addL, ev_fmt, ev_fstr, ev_tupRg1, ev_tupRg2, wp_fmtS, wp_fmtI, wp_fstr, wp_tupRg, wx_reverse, wp_neg, wp_rng1, wp_rng2, evEs, ev_asg, ev_ex, ev_ret, ev_retn, ev_iff, ev_for, ev_pass, ev_brk, ev_cont, ev_nope, wp_no, evT, evAnd, evOr, evTA, evTO, evP, evC, wp_bnd, wp_ret, wp_opt, wp_see, wp_add, wp_sub, wx_mul, wx_fdiv, wx_mod, wx_addS, wx_addT, wx_idxT, wx_idxL, wx_int, wx_abs, wx_lenL, wx_lenT, wx_lenS, wx_strI, wx_tupT, wx_tupL, wx_listT, wx_listL, wx_listS, wx_slcT, wx_slcL, wx_append, wx_pop0, wx_joinL, wx_split, wx_find, wp_newL, wp_setL, then_nx, then_rt, then_bk, then_ct, fin_rt, fin_nx, asg_name, asg_tup, asgs_nil, asgs_cons, le_line, lt_line, cop_eq, cop_ne, cop_lt, cop_le, cop_gt, cop_ge, cop_in, cop_notin, cop_is0, cop_is1, cop_is2, cop_is3, cop_is4, cop_is5, eq_int, eq_bl, eq_str, tru_non, tru_bl, tru_int, tru_tup, tru_ref, tn_non, tn_bl, tn_int, tn_str, tn_tup, tn_ref, isTn, mt_append, mt_pop0, mt_pop, mt_reverse, mt_clear, mt_join, mt_split, mt_find, mt_startswith, mt_partition, wk_tup, wk_str, wk_ref,
    rdL_cons0, rdL_ro0, rdL_succ, rdM_cons0, rdM_succ, List.map_cons, List.map_nil, List.replicate_succ, List.replicate_zero, List.cons_append, List.nil_append, List.append_nil, List.append_assoc, rdL_at, rdL_at0, rdM_at, rdM_at0, set_at, set_at0, List.length_append, Nat.add_assoc, List.getElem?_cons_succ, List.getElem?_cons_zero, List.set_cons_succ, List.set_cons_zero, Nat.reduceSub, Nat.reduceAdd, Option.map_some, Option.bind_some, Option.some.injEq, exists_eq_left', exists_eq_left, exists_eq', exists_and_left, exists_const, D.int.injEq, D.ref.injEq, D.str.injEq, D.bl.injEq, D.tup.injEq, true_and, and_true, List.length_cons, List.length_nil, atI_lit, ixN_lit, Nat.reduceLT, Nat.reduceLeDiff, Nat.reduceEqDiff, Int.reduceLT, Int.reduceLE, Int.reduceEq, Nat.lt_irrefl, Nat.zero_lt_succ, Nat.reduceMul, Int.reduceNeg, Bool.false_eq_true, if_true, if_false, Nat.zero_add, nlit, eq_self, decide_true, decide_false, reduceIte, Bool.or_false, Bool.false_or, Bool.true_or, Bool.or_true, Bool.and_true, Bool.true_and, Bool.and_false, Bool.false_and, Bool.not_true, Bool.not_false, List.all_cons, List.all_nil, List.any_cons, List.any_nil, ev]
      refine ⟨?_, ?_⟩
      · have := List.length_filter_le p (xs.take i)
        simp only [List.length_map, List.length_take] at this ⊢
        exact Nat.lt_of_le_of_lt (by omega : _ ≤ 1000) (by decide)
      · rw [List.take_succ_eq_append_getElem hi, List.filter_append, List.map_append]
        simp [List.filter, hp]
    · refine ⟨?_, rfl⟩
      rw [List.take_succ_eq_append_getElem hi, List.filter_append, List.map_append]
      simp [List.filter, hp]
  · obtain ⟨rfl, rfl⟩ := h1
    have e : (wkList n (xs.map D.int).length).n = xs.length := by simp [wkList]
    refine ⟨by simp [wkList, hr], ?_⟩
    rw [e, List.take_length]
    exact q
theorem pool_ok (h : FD ds Lib.df__law_pool) {ns : List Int} (hl : ns.length ≤ 63) :
    Wp (callD ds con fuel (k + 1) "_law_pool" [.ref 0]) [.ro (ns.map .int)] fun a S1 => a = .ref 4 ∧ ∃ G C ce, (∀ c ∈ C, 0 ≤ c ∧ c < 1000000000000000000) ∧ C.length ≤ 63 ∧ S1 = pst (ns.map .int) ce G C 0 [] := by
  refine wp_call h rfl rfl ?_
  simp only [Lib.df__law_pool, Lib.b__law_pool]
  simp only [wp_cons, wp_nil, wx_asgi, ev_lit, ev_var, ev_gl, ev_tup, ev_lst, ev_bin, ev_neg, ev_cmp, ev_chain, ev_and, ev_or, ev_not, ev_ifx, ev_idx, ev_slc, ev_call, ev_blt, ev_isi, ev_isis, ev_mth, ev_lc, ei_val, ei_rng1, ei_rng2, ei_zip, ei_enum, wx_addL, ev_fmt, ev_fstr, ev_tupRg1, ev_tupRg2, wp_fmtS, wp_fmtI, wp_fstr, wp_tupRg, wx_reverse, wp_neg, wp_rng1, wp_rng2, evEs, ev_asg, ev_ex, ev_ret, ev_retn, ev_iff, ev_for, ev_pass, ev_brk, ev_cont, ev_nope, wp_no, evT, evAnd, evOr, evTA, evTO, evP, evC, wp_bnd, wp_ret, wp_opt, wp_see, wp_add, wp_sub, wx_mul, wx_fdiv, wx_mod, wx_addS, wx_addT, wx_idxT, wx_idxL, wx_int, wx_abs, wx_lenL, wx_lenT, wx_lenS, wx_strI, wx_tupT, wx_tupL, wx_listT, wx_listL, wx_listS, wx_slcT, wx_slcL, wx_append, wx_pop0, wx_joinL, wx_split, wx_find, wp_newL, wp_setL, then_nx, then_rt, then_bk, then_ct, fin_rt, fin_nx, asg_name, asg_tup, asgs_nil, asgs_cons, le_line, lt_line, cop_eq, cop_ne, cop_lt, cop_le, cop_gt, cop_ge, cop_in, cop_notin, cop_is0, cop_is1, cop_is2, cop_is3, cop_is4, cop_is5, eq_int, eq_bl, eq_str, tru_non, tru_bl, tru_int, tru_tup, tru_ref, tn_non, tn_bl, tn_int, tn_str, tn_tup, tn_ref, isTn, mt_append, mt_pop0, mt_pop, mt_reverse, mt_clear, mt_join, mt_split, mt_find, mt_startswith, mt_partition, wk_tup, wk_str, wk_ref,
    rdL_cons0, rdL_ro0, rdL_succ, rdM_cons0, rdM_succ, List.map_cons, List.map_nil, List.replicate_succ, List.replicate_zero, List.cons_append, List.nil_append, List.append_nil, List.append_assoc, rdL_at, rdL_at0, rdM_at, rdM_at0, set_at, set_at0, List.length_append, Nat.add_assoc, List.getElem?_cons_succ, List.getElem?_cons_zero, List.set_cons_succ, List.set_cons_zero, Nat.reduceSub, Nat.reduceAdd, Option.map_some, Option.bind_some, Option.some.injEq, exists_eq_left', exists_eq_left, exists_eq', exists_and_left, exists_const, D.int.injEq, D.ref.injEq, D.str.injEq, D.bl.injEq, D.tup.injEq, true_and, and_true, List.length_cons, List.length_nil, atI_lit, ixN_lit, Nat.reduceLT, Nat.reduceLeDiff, Nat.reduceEqDiff, Int.reduceLT, Int.reduceLE, Int.reduceEq, Nat.lt_irrefl, Nat.zero_lt_succ, Nat.reduceMul, Int.reduceNeg, Bool.false_eq_true, if_true, if_false, Nat.zero_add, nlit, eq_self, decide_true, decide_false, reduceIte, Bool.or_false, Bool.false_or, Bool.true_or, Bool.or_true, Bool.and_true, Bool.true_and, Bool.and_false, Bool.false_and, Bool.not_true, Bool.not_false, List.all_cons, List.all_nil, List.any_cons, List.any_nil]
  refine comp_pure (n := 0) (g := absD) (xs := ns.map .int) rfl (by simp; omega) (fun x hx Q q => ?_) ?_
  · obtain ⟨i, hi, rfl⟩ := List.mem_map.mp hx
    rw [wx_itemF]
    simp only [wp_cons, wp_nil, wx_asgi, ev_lit, ev_var, ev_gl, ev_tup, ev_lst, ev_bin, ev_neg, ev_cmp, ev_chain, ev_and, ev_or, ev_not, ev_ifx, ev_idx, ev_slc, ev_call, ev_blt, ev_isi, ev_isis, ev_mth, ev_lc, ei_val, ei_rng1, ei_rng2, ei_zip, ei_enum, wx_addL, ev_fmt, ev_fstr, ev_tupRg1, ev_tupRg2, wp_fmtS, wp_fmtI, wp_fstr, wp_tupRg, wx_reverse, wp_neg, wp_rng1, wp_rng2, evEs, ev_asg, ev_ex, ev_ret, ev_retn, ev_iff, ev_for, ev_pass, ev_brk, ev_cont, ev_nope, wp_no, evT, evAnd, evOr, evTA, evTO, evP, evC, wp_bnd, wp_ret, wp_opt, wp_see, wp_add, wp_sub, wx_mul, wx_fdiv, wx_mod, wx_addS, wx_addT, wx_idxT, wx_idxL, wx_int, wx_abs, wx_lenL, wx_lenT, wx_lenS, wx_strI, wx_tupT, wx_tupL, wx_listT, wx_listL, wx_listS, wx_slcT, wx_slcL, wx_append, wx_pop0, wx_joinL, wx_split, wx_find, wp_newL, wp_setL, then_nx, then_rt, then_bk, then_ct, fin_rt, fin_nx, asg_name, asg_tup, asgs_nil, asgs_cons, le_line, lt_line, cop_eq, cop_ne, cop_lt, cop_le, cop_gt, cop_ge, cop_in, cop_notin, cop_is0, cop_is1, cop_is2, cop_is3, cop_is4, cop_is5, eq_int, eq_bl, eq_str, tru_non, tru_bl, tru_int, tru_tup, tru_ref, tn_non, tn_bl, tn_int, tn_str, tn_tup, tn_ref, isTn, mt_append, mt_pop0, mt_pop, mt_reverse, mt_clear, mt_join, mt_split, mt_find, mt_startswith, mt_partition, wk_tup, wk_str, wk_ref,
    rdL_cons0, rdL_ro0, rdL_succ, rdM_cons0, rdM_succ, List.map_cons, List.map_nil, List.replicate_succ, List.replicate_zero, List.cons_append, List.nil_append, List.append_nil, List.append_assoc, rdL_at, rdL_at0, rdM_at, rdM_at0, set_at, set_at0, List.length_append, Nat.add_assoc, List.getElem?_cons_succ, List.getElem?_cons_zero, List.set_cons_succ, List.set_cons_zero, Nat.reduceSub, Nat.reduceAdd, Option.map_some, Option.bind_some, Option.some.injEq, exists_eq_left', exists_eq_left, exists_eq', exists_and_left, exists_const, D.int.injEq, D.ref.injEq, D.str.injEq, D.bl.injEq, D.tup.injEq, true_and, and_true, List.length_cons, List.length_nil, atI_lit, ixN_lit, Nat.reduceLT, Nat.reduceLeDiff, Nat.reduceEqDiff, Int.reduceLT, Int.reduceLE, Int.reduceEq, Nat.lt_irrefl, Nat.zero_lt_succ, Nat.reduceMul, Int.reduceNeg, Bool.false_eq_true, if_true, if_false, Nat.zero_add, nlit, eq_self, decide_true, decide_false, reduceIte, Bool.or_false, Bool.false_or, Bool.true_or, Bool.or_true, Bool.and_true, Bool.true_and, Bool.and_false, Bool.false_and, Bool.not_true, Bool.not_false, List.all_cons, List.all_nil, List.any_cons, List.any_nil, wipeD]
    exact ⟨fun _ => q, fun z => by cases z⟩
  · have e : (ns.map D.int).map absD = (ns.map absI).map .int := by
      rw [List.map_map, List.map_map]; rfl
    rw [e]
    simp only [wp_cons, wp_nil, wx_asgi, ev_lit, ev_var, ev_gl, ev_tup, ev_lst, ev_bin, ev_neg, ev_cmp, ev_chain, ev_and, ev_or, ev_not, ev_ifx, ev_idx, ev_slc, ev_call, ev_blt, ev_isi, ev_isis, ev_mth, ev_lc, ei_val, ei_rng1, ei_rng2, ei_zip, ei_enum, wx_addL, ev_fmt, ev_fstr, ev_tupRg1, ev_tupRg2, wp_fmtS, wp_fmtI, wp_fstr, wp_tupRg, wx_reverse, wp_neg, wp_rng1, wp_rng2, evEs, ev_asg, ev_ex, ev_ret, ev_retn, ev_iff, ev_for, ev_pass, ev_brk, ev_cont, ev_nope, wp_no, evT, evAnd, evOr, evTA, evTO, evP, evC, wp_bnd, wp_ret, wp_opt, wp_see, wp_add, wp_sub, wx_mul, wx_fdiv, wx_mod, wx_addS, wx_addT, wx_idxT, wx_idxL, wx_int, wx_abs, wx_lenL, wx_lenT, wx_lenS, wx_strI, wx_tupT, wx_tupL, wx_listT, wx_listL, wx_listS, wx_slcT, wx_slcL, wx_append, wx_pop0, wx_joinL, wx_split, wx_find, wp_newL, wp_setL, then_nx, then_rt, then_bk, then_ct, fin_rt, fin_nx, asg_name, asg_tup, asgs_nil, asgs_cons, le_line, lt_line, cop_eq, cop_ne, cop_lt, cop_le, cop_gt, cop_ge, cop_in, cop_notin, cop_is0, cop_is1, cop_is2, cop_is3, cop_is4, cop_is5, eq_int, eq_bl, eq_str, tru_non, tru_bl, tru_int, tru_tup, tru_ref, tn_non, tn_bl, tn_int, tn_str, tn_tup, tn_ref, isTn, mt_append, mt_pop0, mt_pop, mt_reverse, mt_clear, mt_join, mt_split, mt_find, mt_startswith, mt_partition, wk_tup, wk_str, wk_ref,
    rdL_cons0, rdL_ro0, rdL_succ, rdM_cons0, rdM_succ, List.map_cons, List.map_nil, List.replicate_succ, List.replicate_zero, List.cons_append, List.nil_append, List.append_nil, List.append_assoc, rdL_at, rdL_at0, rdM_at, rdM_at0, set_at, set_at0, List.length_append, Nat.add_assoc, List.getElem?_cons_succ, List.getElem?_cons_zero, List.set_cons_succ, List.set_cons_zero, Nat.reduceSub, Nat.reduceAdd, Option.map_some, Option.bind_some, Option.some.injEq, exists_eq_left', exists_eq_left, exists_eq', exists_and_left, exists_const, D.int.injEq, D.ref.injEq, D.str.injEq, D.bl.injEq, D.tup.injEq, true_and, and_true, List.length_cons, List.length_nil, atI_lit, ixN_lit, Nat.reduceLT, Nat.reduceLeDiff, Nat.reduceEqDiff, Int.reduceLT, Int.reduceLE, Int.reduceEq, Nat.lt_irrefl, Nat.zero_lt_succ, Nat.reduceMul, Int.reduceNeg, Bool.false_eq_true, if_true, if_false, Nat.zero_add, nlit, eq_self, decide_true, decide_false, reduceIte, Bool.or_false, Bool.false_or, Bool.true_or, Bool.or_true, Bool.and_true, Bool.true_and, Bool.and_false, Bool.false_and, Bool.not_true, Bool.not_false, List.all_cons, List.all_nil, List.any_cons, List.any_nil]
    refine comp_filter (p := fun i => decide (1000000000000000000 ≤ i)) (xs := ns.map absI) (by simp) (by simp; omega) rfl (fun i hi S Q q => ?_) ?_
    · simp only [wp_cons, wp_nil, wx_asgi, ev_lit, ev_var, ev_gl, ev_tup, ev_lst, ev_bin, ev_neg, ev_cmp, ev_chain, ev_and, ev_or, ev_not, ev_ifx, ev_idx, ev_slc, ev_call, ev_blt, ev_isi, ev_isis, ev_mth, ev_lc, ei_val, ei_rng1, ei_rng2, ei_zip, ei_enum, wx_addL, ev_fmt, ev_fstr, ev_tupRg1, ev_tupRg2, wp_fmtS, wp_fmtI, wp_fstr, wp_tupRg, wx_reverse, wp_neg, wp_rng1, wp_rng2, evEs, ev_asg, ev_ex, ev_ret, ev_retn, ev_iff, ev_for, ev_pass, ev_brk, ev_cont, ev_nope, wp_no, evT, evAnd, evOr, evTA, evTO, evP, evC, wp_bnd, wp_ret, wp_opt, wp_see, wp_add, wp_sub, wx_mul, wx_fdiv, wx_mod, wx_addS, wx_addT, wx_idxT, wx_idxL, wx_int, wx_abs, wx_lenL, wx_lenT, wx_lenS, wx_strI, wx_tupT, wx_tupL, wx_listT, wx_listL, wx_listS, wx_slcT, wx_slcL, wx_append, wx_pop0, wx_joinL, wx_split, wx_find, wp_newL, wp_setL, then_nx, then_rt, then_bk, then_ct, fin_rt, fin_nx, asg_name, asg_tup, asgs_nil, asgs_cons, le_line, lt_line, cop_eq, cop_ne, cop_lt, cop_le, cop_gt, cop_ge, cop_in, cop_notin, cop_is0, cop_is1, cop_is2, cop_is3, cop_is4, cop_is5, eq_int, eq_bl, eq_str, tru_non, tru_bl, tru_int, tru_tup, tru_ref, tn_non, tn_bl, tn_int, tn_str, tn_tup, tn_ref, isTn, mt_append, mt_pop0, mt_pop, mt_reverse, mt_clear, mt_join, mt_split, mt_find, mt_startswith, mt_partition, wk_tup, wk_str, wk_ref,
    rdL_cons0, rdL_ro0, rdL_succ, rdM_cons0, rdM_succ, List.map_cons, List.map_nil, List.replicate_succ, List.replicate_zero, List.cons_append, List.nil_append, List.append_nil, List.append_assoc, rdL_at, rdL_at0, rdM_at, rdM_at0, set_at, set_at0, List.length_append, Nat.add_assoc, List.getElem?_cons_succ, List.getElem?_cons_zero, List.set_cons_succ, List.set_cons_zero, Nat.reduceSub, Nat.reduceAdd, Option.map_some, Option.bind_some, Option.some.injEq, exists_eq_left', exists_eq_left, exists_eq', exists_and_left, exists_const, D.int.injEq, D.ref.injEq, D.str.injEq, D.bl.injEq, D.tup.injEq, true_and, and_true, List.length_cons, List.length_nil, atI_lit, ixN_lit, Nat.reduceLT, Nat.reduceLeDiff, Nat.reduceEqDiff, Int.reduceLT, Int.reduceLE, Int.reduceEq, Nat.lt_irrefl, Nat.zero_lt_succ, Nat.reduceMul, Int.reduceNeg, Bool.false_eq_true, if_true, if_false, Nat.zero_add, nlit, eq_self, decide_true, decide_false, reduceIte, Bool.or_false, Bool.false_or, Bool.true_or, Bool.or_true, Bool.and_true, Bool.true_and, Bool.and_false, Bool.false_and, Bool.not_true, Bool.not_false, List.all_cons, List.all_nil, List.any_cons, List.any_nil]
      exact q
    · simp only [wp_cons, wp_nil, wx_asgi, ev_lit, ev_var, ev_gl, ev_tup, ev_lst, ev_bin, ev_neg, ev_cmp, ev_chain, ev_and, ev_or, ev_not, ev_ifx, ev_idx, ev_slc, ev_call, ev_blt, ev_isi, ev_isis, ev_mth, ev_lc, ei_val, ei_rng1, ei_rng2, ei_zip, ei_enum, wx_addL, ev_fmt, ev_fstr, ev_tupRg1, ev_tupRg2, wp_fmtS, wp_fmtI, wp_fstr, wp_tupRg, wx_reverse, wp_neg, wp_rng1, wp_rng2, evEs, ev_asg, ev_ex, ev_ret, ev_retn, ev_iff, ev_for, ev_pass, ev_brk, ev_cont, ev_nope, wp_no, evT, evAnd, evOr, evTA, evTO, evP, evC, wp_bnd, wp_ret, wp_opt, wp_see, wp_add, wp_sub, wx_mul, wx_fdiv, wx_mod, wx_addS, wx_addT, wx_idxT, wx_idxL, wx_int, wx_abs, wx_lenL, wx_lenT, wx_lenS, wx_strI, wx_tupT, wx_tupL, wx_listT, wx_listL, wx_listS, wx_slcT, wx_slcL, wx_append, wx_pop0, wx_joinL, wx_split, wx_find, wp_newL, wp_setL, then_nx, then_rt, then_bk, then_ct, fin_rt, fin_nx, asg_name, asg_tup, asgs_nil, asgs_cons, le_line, lt_line, cop_eq, cop_ne, cop_lt, cop_le, cop_gt, cop_ge, cop_in, cop_notin, cop_is0, cop_is1, cop_is2, cop_is3, cop_is4, cop_is5, eq_int, eq_bl, eq_str, tru_non, tru_bl, tru_int, tru_tup, tru_ref, tn_non, tn_bl, tn_int, tn_str, tn_tup, tn_ref, isTn, mt_append, mt_pop0, mt_pop, mt_reverse, mt_clear, mt_join, mt_split, mt_find, mt_startswith, mt_partition, wk_tup, wk_str, wk_ref,
    rdL_cons0, rdL_ro0, rdL_succ, rdM_cons0, rdM_succ, List.map_cons, List.map_nil, List.replicate_succ, List.replicate_zero, List.cons_append, List.nil_append, List.append_nil, List.append_assoc, rdL_at, rdL_at0, rdM_at, rdM_at0, set_at, set_at0, List.length_append, Nat.add_assoc, List.getElem?_cons_succ, List.getElem?_cons_zero, List.set_cons_succ, List.set_cons_zero, Nat.reduceSub, Nat.reduceAdd, Option.map_some, Option.bind_some, Option.some.injEq, exists_eq_left', exists_eq_left, exists_eq', exists_and_left, exists_const, D.int.injEq, D.ref.injEq, D.str.injEq, D.bl.injEq, D.tup.injEq, true_and, and_true, List.length_cons, List.length_nil, atI_lit, ixN_lit, Nat.reduceLT, Nat.reduceLeDiff, Nat.reduceEqDiff, Int.reduceLT, Int.reduceLE, Int.reduceEq, Nat.lt_irrefl, Nat.zero_lt_succ, Nat.reduceMul, Int.reduceNeg, Bool.false_eq_true, if_true, if_false, Nat.zero_add, nlit, eq_self, decide_true, decide_false, reduceIte, Bool.or_false, Bool.false_or, Bool.true_or, Bool.or_true, Bool.and_true, Bool.true_and, Bool.and_false, Bool.false_and, Bool.not_true, Bool.not_false, List.all_cons, List.all_nil, List.any_cons, List.any_nil]
      refine comp_filter (p := fun i => decide (i < 1000000000000000000)) (xs := ns.map absI) (by simp) (by simp; omega) rfl (fun i hi S Q q => ?_) ?_
      · simp only [wp_cons, wp_nil, wx_asgi, ev_lit, ev_var, ev_gl, ev_tup, ev_lst, ev_bin, ev_neg, ev_cmp, ev_chain, ev_and, ev_or, ev_not, ev_ifx, ev_idx, ev_slc, ev_call, ev_blt, ev_isi, ev_isis, ev_mth, ev_lc, ei_val, ei_rng1, ei_rng2, ei_zip, ei_enum, wx_addL, ev_fmt, ev_fstr, ev_tupRg1, ev_tupRg2, wp_fmtS, wp_fmtI, wp_fstr, wp_tupRg, wx_reverse, wp_neg, wp_rng1, wp_rng2, evEs, ev_asg, ev_ex, ev_ret, ev_retn, ev_iff, ev_for, ev_pass, ev_brk, ev_cont, ev_nope, wp_no, evT, evAnd, evOr, evTA, evTO, evP, evC, wp_bnd, wp_ret, wp_opt, wp_see, wp_add, wp_sub, wx_mul, wx_fdiv, wx_mod, wx_addS, wx_addT, wx_idxT, wx_idxL, wx_int, wx_abs, wx_lenL, wx_lenT, wx_lenS, wx_strI, wx_tupT, wx_tupL, wx_listT, wx_listL, wx_listS, wx_slcT, wx_slcL, wx_append, wx_pop0, wx_joinL, wx_split, wx_find, wp_newL, wp_setL, then_nx, then_rt, then_bk, then_ct, fin_rt, fin_nx, asg_name, asg_tup, asgs_nil, asgs_cons, le_line, lt_line, cop_eq, cop_ne, cop_lt, cop_le, cop_gt, cop_ge, cop_in, cop_notin, cop_is0, cop_is1, cop_is2, cop_is3, cop_is4, cop_is5, eq_int, eq_bl, eq_str, tru_non, tru_bl, tru_int, tru_tup, tru_ref, tn_non, tn_bl, tn_int, tn_str, tn_tup, tn_ref, isTn, mt_append, mt_pop0, mt_pop, mt_reverse, mt_clear, mt_join, mt_split, mt_find, mt_startswith, mt_partition, wk_tup, wk_str, wk_ref,
    rdL_cons0, rdL_ro0, rdL_succ, rdM_cons0, rdM_succ, List.map_cons, List.map_nil, List.replicate_succ, List.replicate_zero, List.cons_append, List.nil_append, List.append_nil, List.append_assoc, rdL_at, rdL_at0, rdM_at, rdM_at0, set_at, set_at0, List.length_append, Nat.add_assoc, List.getElem?_cons_succ, List.getElem?_cons_zero, List.set_cons_succ, List.set_cons_zero, Nat.reduceSub, Nat.reduceAdd, Option.map_some, Option.bind_some, Option.some.injEq, exists_eq_left', exists_eq_left, exists_eq', exists_and_left, exists_const, D.int.injEq, D.ref.injEq, D.str.injEq, D.bl.injEq, D.tup.injEq, true_and, and_true, List.length_cons, List.length_nil, atI_lit, ixN_lit, Nat.reduceLT, Nat.reduceLeDiff, Nat.reduceEqDiff, Int.reduceLT, Int.reduceLE, Int.reduceEq, Nat.lt_irrefl, Nat.zero_lt_succ, Nat.reduceMul, Int.reduceNeg, Bool.false_eq_true, if_true, if_false, Nat.zero_add, nlit, eq_self, decide_true, decide_false, reduceIte, Bool.or_false, Bool.false_or, Bool.true_or, Bool.or_true, Bool.and_true, Bool.true_and, Bool.and_false, Bool.false_and, Bool.not_true, Bool.not_false, List.all_cons, List.all_nil, List.any_cons, List.any_nil]
        exact q
      · simp only [wp_cons, wp_nil, wx_asgi, ev_lit, ev_var, ev_gl, ev_tup, ev_lst, ev_bin, ev_neg, ev_cmp, ev_chain, ev_and, ev_or, ev_not, ev_ifx, ev_idx, ev_slc, ev_call, ev_blt, ev_isi, ev_isis, ev_mth, ev_lc, ei_val, ei_rng1, ei_rng2, ei_zip, ei_enum, wx_addL, ev_fmt, ev_fstr, ev_tupRg1, ev_tupRg2, wp_fmtS, wp_fmtI, wp_fstr, wp_tupRg, wx_reverse, wp_neg, wp_rng1, wp_rng2, evEs, ev_asg, ev_ex, ev_ret, ev_retn, ev_iff, ev_for, ev_pass, ev_brk, ev_cont, ev_nope, wp_no, evT, evAnd, evOr, evTA, evTO, evP, evC, wp_bnd, wp_ret, wp_opt, wp_see, wp_add, wp_sub, wx_mul, wx_fdiv, wx_mod, wx_addS, wx_addT, wx_idxT, wx_idxL, wx_int, wx_abs, wx_lenL, wx_lenT, wx_lenS, wx_strI, wx_tupT, wx_tupL, wx_listT, wx_listL, wx_listS, wx_slcT, wx_slcL, wx_append, wx_pop0, wx_joinL, wx_split, wx_find, wp_newL, wp_setL, then_nx, then_rt, then_bk, then_ct, fin_rt, fin_nx, asg_name, asg_tup, asgs_nil, asgs_cons, le_line, lt_line, cop_eq, cop_ne, cop_lt, cop_le, cop_gt, cop_ge, cop_in, cop_notin, cop_is0, cop_is1, cop_is2, cop_is3, cop_is4, cop_is5, eq_int, eq_bl, eq_str, tru_non, tru_bl, tru_int, tru_tup, tru_ref, tn_non, tn_bl, tn_int, tn_str, tn_tup, tn_ref, isTn, mt_append, mt_pop0, mt_pop, mt_reverse, mt_clear, mt_join, mt_split, mt_find, mt_startswith, mt_partition, wk_tup, wk_str, wk_ref,
    rdL_cons0, rdL_ro0, rdL_succ, rdM_cons0, rdM_succ, List.map_cons, List.map_nil, List.replicate_succ, List.replicate_zero, List.cons_append, List.nil_append, List.append_nil, List.append_assoc, rdL_at, rdL_at0, rdM_at, rdM_at0, set_at, set_at0, List.length_append, Nat.add_assoc, List.getElem?_cons_succ, List.getElem?_cons_zero, List.set_cons_succ, List.set_cons_zero, Nat.reduceSub, Nat.reduceAdd, Option.map_some, Option.bind_some, Option.some.injEq, exists_eq_left', exists_eq_left, exists_eq', exists_and_left, exists_const, D.int.injEq, D.ref.injEq, D.str.injEq, D.bl.injEq, D.tup.injEq, true_and, and_true, List.length_cons, List.length_nil, atI_lit, ixN_lit, Nat.reduceLT, Nat.reduceLeDiff, Nat.reduceEqDiff, Int.reduceLT, Int.reduceLE, Int.reduceEq, Nat.lt_irrefl, Nat.zero_lt_succ, Nat.reduceMul, Int.reduceNeg, Bool.false_eq_true, if_true, if_false, Nat.zero_add, nlit, eq_self, decide_true, decide_false, reduceIte, Bool.or_false, Bool.false_or, Bool.true_or, Bool.or_true, Bool.and_true, Bool.true_and, Bool.and_false, Bool.false_and, Bool.not_true, Bool.not_false, List.all_cons, List.all_nil, List.any_cons, List.any_nil]
        refine ⟨(ns.map absI).filter fun i => decide (1000000000000000000 ≤ i), (ns.map absI).filter fun i => decide (i < 1000000000000000000), fun c hc => ?_, ?_, _, rfl⟩
        · obtain ⟨h1, h2⟩ := List.mem_filter.mp hc
          obtain ⟨i, _, rfl⟩ := List.mem_map.mp h1
          refine ⟨?_, of_decide_eq_true h2⟩
          unfold absI
          split <;> omega
        · have := List.length_filter_le (fun i => decide (i < (1000000000000000000 : Int))) (ns.map absI)
          simp at this ⊢
          omega
end
end My

/-! Rules as texts: the law. -/
namespace My
open PySem PySem.Spec PyProof.Rows L2
structure FL (ds : List Df) : Prop where
  pool : FD ds Lib.df__law_pool
  draw : FD ds Lib.df__law_draw
  ways : FD ds Lib.df__law_ways
  same : FD ds Lib.df__law_same
  commas : FD ds Lib.df__law_commas
  glued : FD ds Lib.df__law_glued
  wtext : FD ds Lib.df__law_ways_text
theorem law67 {ds : List Df} {con : Str → Option D} {fuel k : Nat} (h : FL ds) (q : FQ ds con) (hl : FD ds Lib.df_law) {ns : List Int} (hn : ns.length ≤ 63) :
    Wp (callD ds con fuel (k + 6) "law" [.ref 0]) [.ro (ns.map .int)] fun a _ => a = .bl true := by
  refine wp_call hl rfl rfl ?_
  simp only [Lib.df_law, Lib.b_law]
  simp only [wp_cons, wp_nil, wx_asgi, ev_lit, ev_var, ev_gl, ev_tup, ev_lst, ev_bin, ev_neg, ev_cmp, ev_chain, ev_and, ev_or, ev_not, ev_ifx, ev_idx, ev_slc, ev_call, ev_blt, ev_isi, ev_isis, ev_mth, ev_lc, ei_val, ei_rng1, ei_rng2, ei_zip, ei_enum, wx_addL, ev_fmt, ev_fstr, ev_tupRg1, ev_tupRg2, wp_fmtS, wp_fmtI, wp_fstr, wp_tupRg, wx_reverse, wp_neg, wp_rng1, wp_rng2, evEs, ev_asg, ev_ex, ev_ret, ev_retn, ev_iff, ev_for, ev_pass, ev_brk, ev_cont, ev_nope, wp_no, evT, evAnd, evOr, evTA, evTO, evP, evC, wp_bnd, wp_ret, wp_opt, wp_see, wp_add, wp_sub, wx_mul, wx_fdiv, wx_mod, wx_addS, wx_addT, wx_idxT, wx_idxL, wx_int, wx_abs, wx_lenL, wx_lenT, wx_lenS, wx_strI, wx_tupT, wx_tupL, wx_listT, wx_listL, wx_listS, wx_slcT, wx_slcL, wx_append, wx_pop0, wx_joinL, wx_split, wx_find, wp_newL, wp_setL, then_nx, then_rt, then_bk, then_ct, fin_rt, fin_nx, asg_name, asg_tup, asgs_nil, asgs_cons, le_line, lt_line, cop_eq, cop_ne, cop_lt, cop_le, cop_gt, cop_ge, cop_in, cop_notin, cop_is0, cop_is1, cop_is2, cop_is3, cop_is4, cop_is5, eq_int, eq_bl, eq_str, tru_non, tru_bl, tru_int, tru_tup, tru_ref, tn_non, tn_bl, tn_int, tn_str, tn_tup, tn_ref, isTn, mt_append, mt_pop0, mt_pop, mt_reverse, mt_clear, mt_join, mt_split, mt_find, mt_startswith, mt_partition, wk_tup, wk_str, wk_ref,
    rdL_cons0, rdL_ro0, rdL_succ, rdM_cons0, rdM_succ, List.map_cons, List.map_nil, List.replicate_succ, List.replicate_zero, List.cons_append, List.nil_append, List.append_nil, List.append_assoc, rdL_at, rdL_at0, rdM_at, rdM_at0, set_at, set_at0, List.length_append, Nat.add_assoc, List.getElem?_cons_succ, List.getElem?_cons_zero, List.set_cons_succ, List.set_cons_zero, Nat.reduceSub, Nat.reduceAdd, Option.map_some, Option.bind_some, Option.some.injEq, exists_eq_left', exists_eq_left, exists_eq', exists_and_left, exists_const, D.int.injEq, D.ref.injEq, D.str.injEq, D.bl.injEq, D.tup.injEq, true_and, and_true, List.length_cons, List.length_nil, atI_lit, ixN_lit, Nat.reduceLT, Nat.reduceLeDiff, Nat.reduceEqDiff, Int.reduceLT, Int.reduceLE, Int.reduceEq, Nat.lt_irrefl, Nat.zero_lt_succ, Nat.reduceMul, Int.reduceNeg, Bool.false_eq_true, if_true, if_false, Nat.zero_add, nlit, eq_self, decide_true, decide_false, reduceIte, Bool.or_false, Bool.false_or, Bool.true_or, Bool.or_true, Bool.and_true, Bool.true_and, Bool.and_false, Bool.false_and, Bool.not_true, Bool.not_false, List.all_cons, List.all_nil, List.any_cons, List.any_nil]
  refine (pool_ok h.pool hn).mono ?_
  rintro _ _ ⟨rfl, G, C, ce, hC, hCl, rfl⟩
  try simp only [wp_cons, wp_nil, wx_asgi, ev_lit, ev_var, ev_gl, ev_tup, ev_lst, ev_bin, ev_neg, ev_cmp, ev_chain, ev_and, ev_or, ev_not, ev_ifx, ev_idx, ev_slc, ev_call, ev_blt, ev_isi, ev_isis, ev_mth, ev_lc, ei_val, ei_rng1, ei_rng2, ei_zip, ei_enum, wx_addL, ev_fmt, ev_fstr, ev_tupRg1, ev_tupRg2, wp_fmtS, wp_fmtI, wp_fstr, wp_tupRg, wx_reverse, wp_neg, wp_rng1, wp_rng2, evEs, ev_asg, ev_ex, ev_ret, ev_retn, ev_iff, ev_for, ev_pass, ev_brk, ev_cont, ev_nope, wp_no, evT, evAnd, evOr, evTA, evTO, evP, evC, wp_bnd, wp_ret, wp_opt, wp_see, wp_add, wp_sub, wx_mul, wx_fdiv, wx_mod, wx_addS, wx_addT, wx_idxT, wx_idxL, wx_int, wx_abs, wx_lenL, wx_lenT, wx_lenS, wx_strI, wx_tupT, wx_tupL, wx_listT, wx_listL, wx_listS, wx_slcT, wx_slcL, wx_append, wx_pop0, wx_joinL, wx_split, wx_find, wp_newL, wp_setL, then_nx, then_rt, then_bk, then_ct, fin_rt, fin_nx, asg_name, asg_tup, asgs_nil, asgs_cons, le_line, lt_line, cop_eq, cop_ne, cop_lt, cop_le, cop_gt, cop_ge, cop_in, cop_notin, cop_is0, cop_is1, cop_is2, cop_is3, cop_is4, cop_is5, eq_int, eq_bl, eq_str, tru_non, tru_bl, tru_int, tru_tup, tru_ref, tn_non, tn_bl, tn_int, tn_str, tn_tup, tn_ref, isTn, mt_append, mt_pop0, mt_pop, mt_reverse, mt_clear, mt_join, mt_split, mt_find, mt_startswith, mt_partition, wk_tup, wk_str, wk_ref,
    rdL_cons0, rdL_ro0, rdL_succ, rdM_cons0, rdM_succ, List.map_cons, List.map_nil, List.replicate_succ, List.replicate_zero, List.cons_append, List.nil_append, List.append_nil, List.append_assoc, rdL_at, rdL_at0, rdM_at, rdM_at0, set_at, set_at0, List.length_append, Nat.add_assoc, List.getElem?_cons_succ, List.getElem?_cons_zero, List.set_cons_succ, List.set_cons_zero, Nat.reduceSub, Nat.reduceAdd, Option.map_some, Option.bind_some, Option.some.injEq, exists_eq_left', exists_eq_left, exists_eq', exists_and_left, exists_const, D.int.injEq, D.ref.injEq, D.str.injEq, D.bl.injEq, D.tup.injEq, true_and, and_true, List.length_cons, List.length_nil, atI_lit, ixN_lit, Nat.reduceLT, Nat.reduceLeDiff, Nat.reduceEqDiff, Int.reduceLT, Int.reduceLE, Int.reduceEq, Nat.lt_irrefl, Nat.zero_lt_succ, Nat.reduceMul, Int.reduceNeg, Bool.false_eq_true, if_true, if_false, Nat.zero_add, nlit, eq_self, decide_true, decide_false, reduceIte, Bool.or_false, Bool.false_or, Bool.true_or, Bool.or_true, Bool.and_true, Bool.true_and, Bool.and_false, Bool.false_and, Bool.not_true, Bool.not_false, List.all_cons, List.all_nil, List.any_cons, List.any_nil]
  refine (ways_ok (k := k + 3) h.draw h.ways hC hCl (by omega)).mono ?_
  rintro _ _ ⟨W, okW, rfl, G1, n1, X1, hn1, rfl⟩
  try simp only [wp_cons, wp_nil, wx_asgi, ev_lit, ev_var, ev_gl, ev_tup, ev_lst, ev_bin, ev_neg, ev_cmp, ev_chain, ev_and, ev_or, ev_not, ev_ifx, ev_idx, ev_slc, ev_call, ev_blt, ev_isi, ev_isis, ev_mth, ev_lc, ei_val, ei_rng1, ei_rng2, ei_zip, ei_enum, wx_addL, ev_fmt, ev_fstr, ev_tupRg1, ev_tupRg2, wp_fmtS, wp_fmtI, wp_fstr, wp_tupRg, wx_reverse, wp_neg, wp_rng1, wp_rng2, evEs, ev_asg, ev_ex, ev_ret, ev_retn, ev_iff, ev_for, ev_pass, ev_brk, ev_cont, ev_nope, wp_no, evT, evAnd, evOr, evTA, evTO, evP, evC, wp_bnd, wp_ret, wp_opt, wp_see, wp_add, wp_sub, wx_mul, wx_fdiv, wx_mod, wx_addS, wx_addT, wx_idxT, wx_idxL, wx_int, wx_abs, wx_lenL, wx_lenT, wx_lenS, wx_strI, wx_tupT, wx_tupL, wx_listT, wx_listL, wx_listS, wx_slcT, wx_slcL, wx_append, wx_pop0, wx_joinL, wx_split, wx_find, wp_newL, wp_setL, then_nx, then_rt, then_bk, then_ct, fin_rt, fin_nx, asg_name, asg_tup, asgs_nil, asgs_cons, le_line, lt_line, cop_eq, cop_ne, cop_lt, cop_le, cop_gt, cop_ge, cop_in, cop_notin, cop_is0, cop_is1, cop_is2, cop_is3, cop_is4, cop_is5, eq_int, eq_bl, eq_str, tru_non, tru_bl, tru_int, tru_tup, tru_ref, tn_non, tn_bl, tn_int, tn_str, tn_tup, tn_ref, isTn, mt_append, mt_pop0, mt_pop, mt_reverse, mt_clear, mt_join, mt_split, mt_find, mt_startswith, mt_partition, wk_tup, wk_str, wk_ref,
    rdL_cons0, rdL_ro0, rdL_succ, rdM_cons0, rdM_succ, List.map_cons, List.map_nil, List.replicate_succ, List.replicate_zero, List.cons_append, List.nil_append, List.append_nil, List.append_assoc, rdL_at, rdL_at0, rdM_at, rdM_at0, set_at, set_at0, List.length_append, Nat.add_assoc, List.getElem?_cons_succ, List.getElem?_cons_zero, List.set_cons_succ, List.set_cons_zero, Nat.reduceSub, Nat.reduceAdd, Option.map_some, Option.bind_some, Option.some.injEq, exists_eq_left', exists_eq_left, exists_eq', exists_and_left, exists_const, D.int.injEq, D.ref.injEq, D.str.injEq, D.bl.injEq, D.tup.injEq, true_and, and_true, List.length_cons, List.length_nil, atI_lit, ixN_lit, Nat.reduceLT, Nat.reduceLeDiff, Nat.reduceEqDiff, Int.reduceLT, Int.reduceLE, Int.reduceEq, Nat.lt_irrefl, Nat.zero_lt_succ, Nat.reduceMul, Int.reduceNeg, Bool.false_eq_true, if_true, if_false, Nat.zero_add, nlit, eq_self, decide_true, decide_false, reduceIte, Bool.or_false, Bool.false_or, Bool.true_or, Bool.or_true, Bool.and_true, Bool.true_and, Bool.and_false, Bool.false_and, Bool.not_true, Bool.not_false, List.all_cons, List.all_nil, List.any_cons, List.any_nil]
  refine (ways_ok (k := k + 3) h.draw h.ways hC hCl (by omega)).mono ?_
  rintro _ _ ⟨V, okV, rfl, G2, n2, X2, hn2, rfl⟩
  simp only [wp_cons, wp_nil, wx_asgi, ev_lit, ev_var, ev_gl, ev_tup, ev_lst, ev_bin, ev_neg, ev_cmp, ev_chain, ev_and, ev_or, ev_not, ev_ifx, ev_idx, ev_slc, ev_call, ev_blt, ev_isi, ev_isis, ev_mth, ev_lc, ei_val, ei_rng1, ei_rng2, ei_zip, ei_enum, wx_addL, ev_fmt, ev_fstr, ev_tupRg1, ev_tupRg2, wp_fmtS, wp_fmtI, wp_fstr, wp_tupRg, wx_reverse, wp_neg, wp_rng1, wp_rng2, evEs, ev_asg, ev_ex, ev_ret, ev_retn, ev_iff, ev_for, ev_pass, ev_brk, ev_cont, ev_nope, wp_no, evT, evAnd, evOr, evTA, evTO, evP, evC, wp_bnd, wp_ret, wp_opt, wp_see, wp_add, wp_sub, wx_mul, wx_fdiv, wx_mod, wx_addS, wx_addT, wx_idxT, wx_idxL, wx_int, wx_abs, wx_lenL, wx_lenT, wx_lenS, wx_strI, wx_tupT, wx_tupL, wx_listT, wx_listL, wx_listS, wx_slcT, wx_slcL, wx_append, wx_pop0, wx_joinL, wx_split, wx_find, wp_newL, wp_setL, then_nx, then_rt, then_bk, then_ct, fin_rt, fin_nx, asg_name, asg_tup, asgs_nil, asgs_cons, le_line, lt_line, cop_eq, cop_ne, cop_lt, cop_le, cop_gt, cop_ge, cop_in, cop_notin, cop_is0, cop_is1, cop_is2, cop_is3, cop_is4, cop_is5, eq_int, eq_bl, eq_str, tru_non, tru_bl, tru_int, tru_tup, tru_ref, tn_non, tn_bl, tn_int, tn_str, tn_tup, tn_ref, isTn, mt_append, mt_pop0, mt_pop, mt_reverse, mt_clear, mt_join, mt_split, mt_find, mt_startswith, mt_partition, wk_tup, wk_str, wk_ref,
    rdL_cons0, rdL_ro0, rdL_succ, rdM_cons0, rdM_succ, List.map_cons, List.map_nil, List.replicate_succ, List.replicate_zero, List.cons_append, List.nil_append, List.append_nil, List.append_assoc, rdL_at, rdL_at0, rdM_at, rdM_at0, set_at, set_at0, List.length_append, Nat.add_assoc, List.getElem?_cons_succ, List.getElem?_cons_zero, List.set_cons_succ, List.set_cons_zero, Nat.reduceSub, Nat.reduceAdd, Option.map_some, Option.bind_some, Option.some.injEq, exists_eq_left', exists_eq_left, exists_eq', exists_and_left, exists_const, D.int.injEq, D.ref.injEq, D.str.injEq, D.bl.injEq, D.tup.injEq, true_and, and_true, List.length_cons, List.length_nil, atI_lit, ixN_lit, Nat.reduceLT, Nat.reduceLeDiff, Nat.reduceEqDiff, Int.reduceLT, Int.reduceLE, Int.reduceEq, Nat.lt_irrefl, Nat.zero_lt_succ, Nat.reduceMul, Int.reduceNeg, Bool.false_eq_true, if_true, if_false, Nat.zero_add, nlit, eq_self, decide_true, decide_false, reduceIte, Bool.or_false, Bool.false_or, Bool.true_or, Bool.or_true, Bool.and_true, Bool.true_and, Bool.and_false, Bool.false_and, Bool.not_true, Bool.not_false, List.all_cons, List.all_nil, List.any_cons, List.any_nil]
  have hr : rdL (pst (ns.map .int) ce G2 C n2 (X1 ++ (X2 ++ [.lst [W.d, V.d, W.d]]))) (X1.length + (X2.length + 5)) = some [W.d, V.d, W.d] := by
    rw [show X1.length + (X2.length + 5) = (X1 ++ X2).length + 5 from by simp; omega, ← List.append_assoc]
    simp only [rdL_succ]
    exact rdL_new
  change Wp _ (pst (ns.map .int) ce G2 C n2 (X1 ++ (X2 ++ [.lst [W.d, V.d, W.d]]))) _
  generalize (pst (ns.map .int) ce G2 C n2 (X1 ++ (X2 ++ [.lst [W.d, V.d, W.d]]))) = S0 at hr ⊢
  generalize X1.length + (X2.length + 5) = j at hr ⊢
  obtain ⟨I, hI⟩ : ∃ I : Nat → Env → Store → Prop, ∀ i ρ S', I i ρ S' ↔ (∃ (a4 a5 : Option D), ρ = [some (.ref 0), some (.ref 4), some W.d, some V.d, a4, a5] ∧ Gr S0 S') := ⟨_, fun _ _ _ => Iff.rfl⟩
  refine loop_wp (w := wkList _ _) I (fun i ρ S1 hi hh => ?_) (fun ρ S1 hh => ?_) _ 0 _ _ (by simp [wkList]) ((hI _ _ _).mpr ⟨none, none, rfl, .refl _⟩)
  · obtain ⟨a4, a5, rfl, g⟩ := (hI _ _ _).mp hh
    have hi : i < 3 := hi
    obtain ⟨U, e, ok⟩ : ∃ U : Wy, [W.d, V.d, W.d][i]? = some U.d ∧ U.Ok := by
      obtain rfl | rfl | rfl : i = 0 ∨ i = 1 ∨ i = 2 := by omega
      · exact ⟨_, rfl, okW⟩
      · exact ⟨_, rfl, okV⟩
      · exact ⟨_, rfl, okW⟩
    refine ⟨U.d, by simp only [wkList, g.rdL hr, Option.bind_some, e], ?_⟩
    rw [wx_stepF]
    simp only [wp_cons, wp_nil, wx_asgi, ev_lit, ev_var, ev_gl, ev_tup, ev_lst, ev_bin, ev_neg, ev_cmp, ev_chain, ev_and, ev_or, ev_not, ev_ifx, ev_idx, ev_slc, ev_call, ev_blt, ev_isi, ev_isis, ev_mth, ev_lc, ei_val, ei_rng1, ei_rng2, ei_zip, ei_enum, wx_addL, ev_fmt, ev_fstr, ev_tupRg1, ev_tupRg2, wp_fmtS, wp_fmtI, wp_fstr, wp_tupRg, wx_reverse, wp_neg, wp_rng1, wp_rng2, evEs, ev_asg, ev_ex, ev_ret, ev_retn, ev_iff, ev_for, ev_pass, ev_brk, ev_cont, ev_nope, wp_no, evT, evAnd, evOr, evTA, evTO, evP, evC, wp_bnd, wp_ret, wp_opt, wp_see, wp_add, wp_sub, wx_mul, wx_fdiv, wx_mod, wx_addS, wx_addT, wx_idxT, wx_idxL, wx_int, wx_abs, wx_lenL, wx_lenT, wx_lenS, wx_strI, wx_tupT, wx_tupL, wx_listT, wx_listL, wx_listS, wx_slcT, wx_slcL, wx_append, wx_pop0, wx_joinL, wx_split, wx_find, wp_newL, wp_setL, then_nx, then_rt, then_bk, then_ct, fin_rt, fin_nx, asg_name, asg_tup, asgs_nil, asgs_cons, le_line, lt_line, cop_eq, cop_ne, cop_lt, cop_le, cop_gt, cop_ge, cop_in, cop_notin, cop_is0, cop_is1, cop_is2, cop_is3, cop_is4, cop_is5, eq_int, eq_bl, eq_str, tru_non, tru_bl, tru_int, tru_tup, tru_ref, tn_non, tn_bl, tn_int, tn_str, tn_tup, tn_ref, isTn, mt_append, mt_pop0, mt_pop, mt_reverse, mt_clear, mt_join, mt_split, mt_find, mt_startswith, mt_partition, wk_tup, wk_str, wk_ref,
    rdL_cons0, rdL_ro0, rdL_succ, rdM_cons0, rdM_succ, List.map_cons, List.map_nil, List.replicate_succ, List.replicate_zero, List.cons_append, List.nil_append, List.append_nil, List.append_assoc, rdL_at, rdL_at0, rdM_at, rdM_at0, set_at, set_at0, List.length_append, Nat.add_assoc, List.getElem?_cons_succ, List.getElem?_cons_zero, List.set_cons_succ, List.set_cons_zero, Nat.reduceSub, Nat.reduceAdd, Option.map_some, Option.bind_some, Option.some.injEq, exists_eq_left', exists_eq_left, exists_eq', exists_and_left, exists_const, D.int.injEq, D.ref.injEq, D.str.injEq, D.bl.injEq, D.tup.injEq, true_and, and_true, List.length_cons, List.length_nil, atI_lit, ixN_lit, Nat.reduceLT, Nat.reduceLeDiff, Nat.reduceEqDiff, Int.reduceLT, Int.reduceLE, Int.reduceEq, Nat.lt_irrefl, Nat.zero_lt_succ, Nat.reduceMul, Int.reduceNeg, Bool.false_eq_true, if_true, if_false, Nat.zero_add, nlit, eq_self, decide_true, decide_false, reduceIte, Bool.or_false, Bool.false_or, Bool.true_or, Bool.or_true, Bool.and_true, Bool.true_and, Bool.and_false, Bool.false_and, Bool.not_true, Bool.not_false, List.all_cons, List.all_nil, List.any_cons, List.any_nil]
    refine (ways_text_ok (k := k + 3) h.wtext h.commas h.glued ok).to fun S2 g2 => ?_
    try simp only [wp_cons, wp_nil, wx_asgi, ev_lit, ev_var, ev_gl, ev_tup, ev_lst, ev_bin, ev_neg, ev_cmp, ev_chain, ev_and, ev_or, ev_not, ev_ifx, ev_idx, ev_slc, ev_call, ev_blt, ev_isi, ev_isis, ev_mth, ev_lc, ei_val, ei_rng1, ei_rng2, ei_zip, ei_enum, wx_addL, ev_fmt, ev_fstr, ev_tupRg1, ev_tupRg2, wp_fmtS, wp_fmtI, wp_fstr, wp_tupRg, wx_reverse, wp_neg, wp_rng1, wp_rng2, evEs, ev_asg, ev_ex, ev_ret, ev_retn, ev_iff, ev_for, ev_pass, ev_brk, ev_cont, ev_nope, wp_no, evT, evAnd, evOr, evTA, evTO, evP, evC, wp_bnd, wp_ret, wp_opt, wp_see, wp_add, wp_sub, wx_mul, wx_fdiv, wx_mod, wx_addS, wx_addT, wx_idxT, wx_idxL, wx_int, wx_abs, wx_lenL, wx_lenT, wx_lenS, wx_strI, wx_tupT, wx_tupL, wx_listT, wx_listL, wx_listS, wx_slcT, wx_slcL, wx_append, wx_pop0, wx_joinL, wx_split, wx_find, wp_newL, wp_setL, then_nx, then_rt, then_bk, then_ct, fin_rt, fin_nx, asg_name, asg_tup, asgs_nil, asgs_cons, le_line, lt_line, cop_eq, cop_ne, cop_lt, cop_le, cop_gt, cop_ge, cop_in, cop_notin, cop_is0, cop_is1, cop_is2, cop_is3, cop_is4, cop_is5, eq_int, eq_bl, eq_str, tru_non, tru_bl, tru_int, tru_tup, tru_ref, tn_non, tn_bl, tn_int, tn_str, tn_tup, tn_ref, isTn, mt_append, mt_pop0, mt_pop, mt_reverse, mt_clear, mt_join, mt_split, mt_find, mt_startswith, mt_partition, wk_tup, wk_str, wk_ref,
    rdL_cons0, rdL_ro0, rdL_succ, rdM_cons0, rdM_succ, List.map_cons, List.map_nil, List.replicate_succ, List.replicate_zero, List.cons_append, List.nil_append, List.append_nil, List.append_assoc, rdL_at, rdL_at0, rdM_at, rdM_at0, set_at, set_at0, List.length_append, Nat.add_assoc, List.getElem?_cons_succ, List.getElem?_cons_zero, List.set_cons_succ, List.set_cons_zero, Nat.reduceSub, Nat.reduceAdd, Option.map_some, Option.bind_some, Option.some.injEq, exists_eq_left', exists_eq_left, exists_eq', exists_and_left, exists_const, D.int.injEq, D.ref.injEq, D.str.injEq, D.bl.injEq, D.tup.injEq, true_and, and_true, List.length_cons, List.length_nil, atI_lit, ixN_lit, Nat.reduceLT, Nat.reduceLeDiff, Nat.reduceEqDiff, Int.reduceLT, Int.reduceLE, Int.reduceEq, Nat.lt_irrefl, Nat.zero_lt_succ, Nat.reduceMul, Int.reduceNeg, Bool.false_eq_true, if_true, if_false, Nat.zero_add, nlit, eq_self, decide_true, decide_false, reduceIte, Bool.or_false, Bool.false_or, Bool.true_or, Bool.or_true, Bool.and_true, Bool.true_and, Bool.and_false, Bool.false_and, Bool.not_true, Bool.not_false, List.all_cons, List.all_nil, List.any_cons, List.any_nil]
    refine (show_rule_ok (k := k) q.toFR ok).to fun S3 g3 => ?_
    refine (same_ok h.same 0 (k := k + 4) (.str _)).to fun S4 g4 => ?_
    try simp only [wp_cons, wp_nil, wx_asgi, ev_lit, ev_var, ev_gl, ev_tup, ev_lst, ev_bin, ev_neg, ev_cmp, ev_chain, ev_and, ev_or, ev_not, ev_ifx, ev_idx, ev_slc, ev_call, ev_blt, ev_isi, ev_isis, ev_mth, ev_lc, ei_val, ei_rng1, ei_rng2, ei_zip, ei_enum, wx_addL, ev_fmt, ev_fstr, ev_tupRg1, ev_tupRg2, wp_fmtS, wp_fmtI, wp_fstr, wp_tupRg, wx_reverse, wp_neg, wp_rng1, wp_rng2, evEs, ev_asg, ev_ex, ev_ret, ev_retn, ev_iff, ev_for, ev_pass, ev_brk, ev_cont, ev_nope, wp_no, evT, evAnd, evOr, evTA, evTO, evP, evC, wp_bnd, wp_ret, wp_opt, wp_see, wp_add, wp_sub, wx_mul, wx_fdiv, wx_mod, wx_addS, wx_addT, wx_idxT, wx_idxL, wx_int, wx_abs, wx_lenL, wx_lenT, wx_lenS, wx_strI, wx_tupT, wx_tupL, wx_listT, wx_listL, wx_listS, wx_slcT, wx_slcL, wx_append, wx_pop0, wx_joinL, wx_split, wx_find, wp_newL, wp_setL, then_nx, then_rt, then_bk, then_ct, fin_rt, fin_nx, asg_name, asg_tup, asgs_nil, asgs_cons, le_line, lt_line, cop_eq, cop_ne, cop_lt, cop_le, cop_gt, cop_ge, cop_in, cop_notin, cop_is0, cop_is1, cop_is2, cop_is3, cop_is4, cop_is5, eq_int, eq_bl, eq_str, tru_non, tru_bl, tru_int, tru_tup, tru_ref, tn_non, tn_bl, tn_int, tn_str, tn_tup, tn_ref, isTn, mt_append, mt_pop0, mt_pop, mt_reverse, mt_clear, mt_join, mt_split, mt_find, mt_startswith, mt_partition, wk_tup, wk_str, wk_ref,
    rdL_cons0, rdL_ro0, rdL_succ, rdM_cons0, rdM_succ, List.map_cons, List.map_nil, List.replicate_succ, List.replicate_zero, List.cons_append, List.nil_append, List.append_nil, List.append_assoc, rdL_at, rdL_at0, rdM_at, rdM_at0, set_at, set_at0, List.length_append, Nat.add_assoc, List.getElem?_cons_succ, List.getElem?_cons_zero, List.set_cons_succ, List.set_cons_zero, Nat.reduceSub, Nat.reduceAdd, Option.map_some, Option.bind_some, Option.some.injEq, exists_eq_left', exists_eq_left, exists_eq', exists_and_left, exists_const, D.int.injEq, D.ref.injEq, D.str.injEq, D.bl.injEq, D.tup.injEq, true_and, and_true, List.length_cons, List.length_nil, atI_lit, ixN_lit, Nat.reduceLT, Nat.reduceLeDiff, Nat.reduceEqDiff, Int.reduceLT, Int.reduceLE, Int.reduceEq, Nat.lt_irrefl, Nat.zero_lt_succ, Nat.reduceMul, Int.reduceNeg, Bool.false_eq_true, if_true, if_false, Nat.zero_add, nlit, eq_self, decide_true, decide_false, reduceIte, Bool.or_false, Bool.false_or, Bool.true_or, Bool.or_true, Bool.and_true, Bool.true_and, Bool.and_false, Bool.false_and, Bool.not_true, Bool.not_false, List.all_cons, List.all_nil, List.any_cons, List.any_nil]
    refine (read_rule_ok (k := k) q ok).to fun S5 g5 => ?_
    refine (same_ok h.same 3 (k := k + 1) (flt_W U)).to fun S6 g6 => ?_
    try simp only [wp_cons, wp_nil, wx_asgi, ev_lit, ev_var, ev_gl, ev_tup, ev_lst, ev_bin, ev_neg, ev_cmp, ev_chain, ev_and, ev_or, ev_not, ev_ifx, ev_idx, ev_slc, ev_call, ev_blt, ev_isi, ev_isis, ev_mth, ev_lc, ei_val, ei_rng1, ei_rng2, ei_zip, ei_enum, wx_addL, ev_fmt, ev_fstr, ev_tupRg1, ev_tupRg2, wp_fmtS, wp_fmtI, wp_fstr, wp_tupRg, wx_reverse, wp_neg, wp_rng1, wp_rng2, evEs, ev_asg, ev_ex, ev_ret, ev_retn, ev_iff, ev_for, ev_pass, ev_brk, ev_cont, ev_nope, wp_no, evT, evAnd, evOr, evTA, evTO, evP, evC, wp_bnd, wp_ret, wp_opt, wp_see, wp_add, wp_sub, wx_mul, wx_fdiv, wx_mod, wx_addS, wx_addT, wx_idxT, wx_idxL, wx_int, wx_abs, wx_lenL, wx_lenT, wx_lenS, wx_strI, wx_tupT, wx_tupL, wx_listT, wx_listL, wx_listS, wx_slcT, wx_slcL, wx_append, wx_pop0, wx_joinL, wx_split, wx_find, wp_newL, wp_setL, then_nx, then_rt, then_bk, then_ct, fin_rt, fin_nx, asg_name, asg_tup, asgs_nil, asgs_cons, le_line, lt_line, cop_eq, cop_ne, cop_lt, cop_le, cop_gt, cop_ge, cop_in, cop_notin, cop_is0, cop_is1, cop_is2, cop_is3, cop_is4, cop_is5, eq_int, eq_bl, eq_str, tru_non, tru_bl, tru_int, tru_tup, tru_ref, tn_non, tn_bl, tn_int, tn_str, tn_tup, tn_ref, isTn, mt_append, mt_pop0, mt_pop, mt_reverse, mt_clear, mt_join, mt_split, mt_find, mt_startswith, mt_partition, wk_tup, wk_str, wk_ref,
    rdL_cons0, rdL_ro0, rdL_succ, rdM_cons0, rdM_succ, List.map_cons, List.map_nil, List.replicate_succ, List.replicate_zero, List.cons_append, List.nil_append, List.append_nil, List.append_assoc, rdL_at, rdL_at0, rdM_at, rdM_at0, set_at, set_at0, List.length_append, Nat.add_assoc, List.getElem?_cons_succ, List.getElem?_cons_zero, List.set_cons_succ, List.set_cons_zero, Nat.reduceSub, Nat.reduceAdd, Option.map_some, Option.bind_some, Option.some.injEq, exists_eq_left', exists_eq_left, exists_eq', exists_and_left, exists_const, D.int.injEq, D.ref.injEq, D.str.injEq, D.bl.injEq, D.tup.injEq, true_and, and_true, List.length_cons, List.length_nil, atI_lit, ixN_lit, Nat.reduceLT, Nat.reduceLeDiff, Nat.reduceEqDiff, Int.reduceLT, Int.reduceLE, Int.reduceEq, Nat.lt_irrefl, Nat.zero_lt_succ, Nat.reduceMul, Int.reduceNeg, Bool.false_eq_true, if_true, if_false, Nat.zero_add, nlit, eq_self, decide_true, decide_false, reduceIte, Bool.or_false, Bool.false_or, Bool.true_or, Bool.or_true, Bool.and_true, Bool.true_and, Bool.and_false, Bool.false_and, Bool.not_true, Bool.not_false, List.all_cons, List.all_nil, List.any_cons, List.any_nil]
    exact (hI _ _ _).mpr ⟨_, _, rfl, ((((g.trans g2).trans g3).trans g4).trans g5).trans g6⟩
  · obtain ⟨a4, a5, rfl, g⟩ := (hI _ _ _).mp hh
    refine ⟨by simp only [wkList, g.rdL hr]; rfl, ?_⟩
    try simp only [wp_cons, wp_nil, wx_asgi, ev_lit, ev_var, ev_gl, ev_tup, ev_lst, ev_bin, ev_neg, ev_cmp, ev_chain, ev_and, ev_or, ev_not, ev_ifx, ev_idx, ev_slc, ev_call, ev_blt, ev_isi, ev_isis, ev_mth, ev_lc, ei_val, ei_rng1, ei_rng2, ei_zip, ei_enum, wx_addL, ev_fmt, ev_fstr, ev_tupRg1, ev_tupRg2, wp_fmtS, wp_fmtI, wp_fstr, wp_tupRg, wx_reverse, wp_neg, wp_rng1, wp_rng2, evEs, ev_asg, ev_ex, ev_ret, ev_retn, ev_iff, ev_for, ev_pass, ev_brk, ev_cont, ev_nope, wp_no, evT, evAnd, evOr, evTA, evTO, evP, evC, wp_bnd, wp_ret, wp_opt, wp_see, wp_add, wp_sub, wx_mul, wx_fdiv, wx_mod, wx_addS, wx_addT, wx_idxT, wx_idxL, wx_int, wx_abs, wx_lenL, wx_lenT, wx_lenS, wx_strI, wx_tupT, wx_tupL, wx_listT, wx_listL, wx_listS, wx_slcT, wx_slcL, wx_append, wx_pop0, wx_joinL, wx_split, wx_find, wp_newL, wp_setL, then_nx, then_rt, then_bk, then_ct, fin_rt, fin_nx, asg_name, asg_tup, asgs_nil, asgs_cons, le_line, lt_line, cop_eq, cop_ne, cop_lt, cop_le, cop_gt, cop_ge, cop_in, cop_notin, cop_is0, cop_is1, cop_is2, cop_is3, cop_is4, cop_is5, eq_int, eq_bl, eq_str, tru_non, tru_bl, tru_int, tru_tup, tru_ref, tn_non, tn_bl, tn_int, tn_str, tn_tup, tn_ref, isTn, mt_append, mt_pop0, mt_pop, mt_reverse, mt_clear, mt_join, mt_split, mt_find, mt_startswith, mt_partition, wk_tup, wk_str, wk_ref,
    rdL_cons0, rdL_ro0, rdL_succ, rdM_cons0, rdM_succ, List.map_cons, List.map_nil, List.replicate_succ, List.replicate_zero, List.cons_append, List.nil_append, List.append_nil, List.append_assoc, rdL_at, rdL_at0, rdM_at, rdM_at0, set_at, set_at0, List.length_append, Nat.add_assoc, List.getElem?_cons_succ, List.getElem?_cons_zero, List.set_cons_succ, List.set_cons_zero, Nat.reduceSub, Nat.reduceAdd, Option.map_some, Option.bind_some, Option.some.injEq, exists_eq_left', exists_eq_left, exists_eq', exists_and_left, exists_const, D.int.injEq, D.ref.injEq, D.str.injEq, D.bl.injEq, D.tup.injEq, true_and, and_true, List.length_cons, List.length_nil, atI_lit, ixN_lit, Nat.reduceLT, Nat.reduceLeDiff, Nat.reduceEqDiff, Int.reduceLT, Int.reduceLE, Int.reduceEq, Nat.lt_irrefl, Nat.zero_lt_succ, Nat.reduceMul, Int.reduceNeg, Bool.false_eq_true, if_true, if_false, Nat.zero_add, nlit, eq_self, decide_true, decide_false, reduceIte, Bool.or_false, Bool.false_or, Bool.true_or, Bool.or_true, Bool.and_true, Bool.true_and, Bool.and_false, Bool.false_and, Bool.not_true, Bool.not_false, List.all_cons, List.all_nil, List.any_cons, List.any_nil]
end My

/-! Steps as texts. -/
namespace My
open PySem PySem.Spec PyProof.Rows L2
inductive Sg where
  | go (r : Int)
  | send (l : Int) (os : List Int)
def Sg.d : Sg → D
  | .go r => .tup [.str "do", .int r]
  | .send l os => .tup [.str "send", .int l, tupI os]
def Sg.Ok : Sg → Prop
  | .go r => -1 ≤ r ∧ r ≤ 9
  | .send l os => (0 ≤ l ∧ l ≤ 9) ∧ Asc 10 os ∧ os ≠ []
def doT (r : Int) : Str := if r < 0 then "do ." else ("do " : Str) ++ dig r
def sendT (l : Int) (os : List Int) : Str := ("send " : Str) ++ dig l ++ (" " : Str) ++ glued os
def Sg.t : Sg → Str
  | .go r => doT r
  | .send l os => sendT l os
/-- a list in the store, item by item -/
theorem comp_map {α : Type} {n : Nat} {ss : List α} {f : D → M (Option D)} {F G : α → D} {S : Store} {Q : D → Store → Prop} (hr : rdL S n = some (ss.map F)) (hl : ss.length ≤ sizeLine) (h : ∀ x ∈ ss, ∀ S, Wp (f (F x)) S fun r S1 => r = some (G x) ∧ Gr S S1)
    (q : ∀ S1, Gr S S1 → Q (.ref S1.length) (S1 ++ [.lst (ss.map G)])) : Wp (compF (wkList n (ss.map F).length) f (wkList n (ss.map F).length).n 0 []) S Q := by
  refine comp_wp (w := wkList n (ss.map F).length) (fun i acc S1 => acc = (ss.take i).map G ∧ Gr S S1) (fun i acc S1 hi h1 => ?_) (fun acc S1 h1 => ?_) _ 0 [] S (by simp [wkList]) ⟨by simp, .refl _⟩
  · have hi : i < ss.length := by simpa [wkList] using hi
    obtain ⟨rfl, hg⟩ := h1
    refine ⟨F ss[i], by simp [wkList, hg.rdL hr, List.getElem?_eq_getElem hi], (h ss[i] (List.getElem_mem hi) S1).mono ?_⟩
    rintro r S2 ⟨rfl, hg2⟩
    refine ⟨by simp; omega, ?_, hg.trans hg2⟩
    rw [List.take_succ_eq_append_getElem hi, List.map_append]
    rfl
  · obtain ⟨rfl, hg⟩ := h1
    have e : (wkList n (ss.map F).length).n = ss.length := by simp [wkList]
    refine ⟨by simp only [wkList, hg.rdL hr]; simp, ?_⟩
    rw [e, List.take_length]
    exact q S1 hg
theorem tl_send : TL.tl ("send " : Str) = [115, 101, 110, 100, 32] := by decide +kernel
theorem tl_do : TL.tl ("do " : Str) = [100, 111, 32] := by decide +kernel
theorem tl_dod : TL.tl ("do ." : Str) = [100, 111, 32, 46] := by decide +kernel
theorem tl_sp : TL.tl (" " : Str) = [32] := by decide +kernel
theorem tl_doT {r : Int} (h : 0 ≤ r ∧ r ≤ 9) : TL.tl (doT r) = [100, 111, 32, 48 + r.toNat] := by
  unfold doT
  rw [if_neg (by omega), TL.tl_append, tl_do, tl_dig (by omega)]; rfl
theorem doT_neg {r : Int} (h : r < 0) : doT r = "do ." := by unfold doT; rw [if_pos h]
theorem tl_sendT {l : Int} {os : List Int} (h : 0 ≤ l ∧ l ≤ 9) (ho : Sm10 os) : TL.tl (sendT l os) = [115, 101, 110, 100, 32, 48 + l.toNat, 32] ++ os.map fun i => 48 + i.toNat := by
  unfold sendT
  rw [TL.tl_append, TL.tl_append, TL.tl_append, tl_send, tl_sp, tl_dig (by omega), tl_glued ho]; rfl
theorem cat2 (a b : Str) : catS [a, b] Str.empty = a ++ b := by
  refine TL.ext_tl ?_
  have e : TL.tl Str.empty = [] := by decide +kernel
  simp only [catS, TL.tl_append, e, List.nil_append]
theorem cat4 (a b c d : Str) : catS [a, b, c, d] Str.empty = a ++ b ++ c ++ d := by
  refine TL.ext_tl ?_
  have e : TL.tl Str.empty = [] := by decide +kernel
  simp only [catS, TL.tl_append, e, List.nil_append]
theorem len_send : (Str.ofString "send ").length = 5 := by decide +kernel
theorem len_do : (Str.ofString "do ").length = 3 := by decide +kernel
theorem len_sp : (Str.ofString " ").length = 1 := by decide +kernel
theorem line1000 {n : Nat} (h : n ≤ 1000) : n ≤ sizeLine := Nat.le_trans h (by decide)
theorem Asc.sm10 {os : List Int} (h : Asc 10 os) : Sm10 os := h.sm (by omega)
theorem t_len {s : Sg} (h : s.Ok) : s.t.length ≤ 17 := by
  rw [TL.len_tl]
  cases s with
  | go r =>
    by_cases hr : r < 0
    · show (TL.tl (doT r)).length ≤ 17
      rw [doT_neg hr, tl_dod]; decide
    · show (TL.tl (doT r)).length ≤ 17
      have h : -1 ≤ r ∧ r ≤ 9 := h
      rw [tl_doT (by omega)]; simp
  | send l os =>
    obtain ⟨h1, h2, h3⟩ := h
    show (TL.tl (sendT l os)).length ≤ 17
    rw [tl_sendT h1 h2.sm10]
    have := h2.len
    simp; omega
structure FT (ds : List Df) (con : Str → Option D) : Prop where
  draw : FD ds Lib.df__law_draw
  pool : FD ds Lib.df__law_pool
  same : FD ds Lib.df__law_same
  lglued : FD ds Lib.df__law_glued
  ltext : FD ds Lib.df__law_step_text
  lany : FD ds Lib.df__law_any_step
  joined : FD ds Lib.df_joined_digits
  sstep : FD ds Lib.df_show_step
  srun : FD ds Lib.df_show_run
  rdigit : FD ds Lib.df_read_digit
  rdigits : FD ds Lib.df_read_digits
  rstep : FD ds Lib.df_read_step
  rrun : FD ds Lib.df_read_run
  asc : FD ds Lib.df_is_ascending
  integer : FD ds Lib.df_is_integer
  digits : con "DIGITS" = some (.str digitsS)
  most : con "MOST_STEPS" = some (.int 1000)
section
variable {ds : List Df} {con : Str → Option D} {fuel k : Nat} {S : Store}
theorem neqS {a b : Str} (h : (TL.tl a == TL.tl b) = false) : decide (a = b) = false := by
  refine decide_eq_false fun e => ?_
  rw [e] at h
  simp at h
theorem step_text_ok (h : FT ds con) {s : Sg} (ok : s.Ok) : Pu (callD ds con fuel (k + 2) "_law_step_text" [s.d]) S (.str s.t) := by
  refine pu_call h.ltext rfl rfl ?_
  simp only [Lib.df__law_step_text, Lib.b__law_step_text]
  cases s with
  | go r =>
    have hr : -1 ≤ r ∧ r ≤ 9 := ok
    have e1 : decide (Str.ofString "do" = Str.ofString "send") = false := by decide +kernel
    simp only [Sg.d, wp_cons, wp_nil, wx_asgi, ev_lit, ev_var, ev_gl, ev_tup, ev_lst, ev_bin, ev_neg, ev_cmp, ev_chain, ev_and, ev_or, ev_not, ev_ifx, ev_idx, ev_slc, ev_call, ev_blt, ev_isi, ev_isis, ev_mth, ev_lc, ei_val, ei_rng1, ei_rng2, ei_zip, ei_enum, wx_addL, ev_fmt, ev_fstr, ev_tupRg1, ev_tupRg2, wp_fmtS, wp_fmtI, wp_fstr, wp_tupRg, wx_reverse, wp_neg, wp_rng1, wp_rng2, evEs, ev_asg, ev_ex, ev_ret, ev_retn, ev_iff, ev_for, ev_pass, ev_brk, ev_cont, ev_nope, wp_no, evT, evAnd, evOr, evTA, evTO, evP, evC, wp_bnd, wp_ret, wp_opt, wp_see, wp_add, wp_sub, wx_mul, wx_fdiv, wx_mod, wx_addS, wx_addT, wx_idxT, wx_idxL, wx_int, wx_abs, wx_lenL, wx_lenT, wx_lenS, wx_strI, wx_tupT, wx_tupL, wx_listT, wx_listL, wx_listS, wx_slcT, wx_slcL, wx_append, wx_pop0, wx_joinL, wx_split, wx_find, wp_newL, wp_setL, then_nx, then_rt, then_bk, then_ct, fin_rt, fin_nx, asg_name, asg_tup, asgs_nil, asgs_cons, le_line, lt_line, cop_eq, cop_ne, cop_lt, cop_le, cop_gt, cop_ge, cop_in, cop_notin, cop_is0, cop_is1, cop_is2, cop_is3, cop_is4, cop_is5, eq_int, eq_bl, eq_str, tru_non, tru_bl, tru_int, tru_tup, tru_ref, tn_non, tn_bl, tn_int, tn_str, tn_tup, tn_ref, isTn, mt_append, mt_pop0, mt_pop, mt_reverse, mt_clear, mt_join, mt_split, mt_find, mt_startswith, mt_partition, wk_tup, wk_str, wk_ref,
    rdL_cons0, rdL_ro0, rdL_succ, rdM_cons0, rdM_succ, List.map_cons, List.map_nil, List.replicate_succ, List.replicate_zero, List.cons_append, List.nil_append, List.append_nil, List.append_assoc, rdL_at, rdL_at0, rdM_at, rdM_at0, set_at, set_at0, List.length_append, Nat.add_assoc, List.getElem?_cons_succ, List.getElem?_cons_zero, List.set_cons_succ, List.set_cons_zero, Nat.reduceSub, Nat.reduceAdd, Option.map_some, Option.bind_some, Option.some.injEq, exists_eq_left', exists_eq_left, exists_eq', exists_and_left, exists_const, D.int.injEq, D.ref.injEq, D.str.injEq, D.bl.injEq, D.tup.injEq, true_and, and_true, List.length_cons, List.length_nil, atI_lit, ixN_lit, Nat.reduceLT, Nat.reduceLeDiff, Nat.reduceEqDiff, Int.reduceLT, Int.reduceLE, Int.reduceEq, Nat.lt_irrefl, Nat.zero_lt_succ, Nat.reduceMul, Int.reduceNeg, Bool.false_eq_true, if_true, if_false, Nat.zero_add, nlit, eq_self, decide_true, decide_false, reduceIte, Bool.or_false, Bool.false_or, Bool.true_or, Bool.or_true, Bool.and_true, Bool.true_and, Bool.and_false, Bool.false_and, Bool.not_true, Bool.not_false, List.all_cons, List.all_nil, List.any_cons, List.any_nil, e1]
    by_cases hn : r = -1
    · subst hn
      simp only [wp_cons, wp_nil, wx_asgi, ev_lit, ev_var, ev_gl, ev_tup, ev_lst, ev_bin, ev_neg, ev_cmp, ev_chain, ev_and, ev_or, ev_not, ev_ifx, ev_idx, ev_slc, ev_call, ev_blt, ev_isi, ev_isis, ev_mth, ev_lc, ei_val, ei_rng1, ei_rng2, ei_zip, ei_enum, wx_addL, ev_fmt, ev_fstr, ev_tupRg1, ev_tupRg2, wp_fmtS, wp_fmtI, wp_fstr, wp_tupRg, wx_reverse, wp_neg, wp_rng1, wp_rng2, evEs, ev_asg, ev_ex, ev_ret, ev_retn, ev_iff, ev_for, ev_pass, ev_brk, ev_cont, ev_nope, wp_no, evT, evAnd, evOr, evTA, evTO, evP, evC, wp_bnd, wp_ret, wp_opt, wp_see, wp_add, wp_sub, wx_mul, wx_fdiv, wx_mod, wx_addS, wx_addT, wx_idxT, wx_idxL, wx_int, wx_abs, wx_lenL, wx_lenT, wx_lenS, wx_strI, wx_tupT, wx_tupL, wx_listT, wx_listL, wx_listS, wx_slcT, wx_slcL, wx_append, wx_pop0, wx_joinL, wx_split, wx_find, wp_newL, wp_setL, then_nx, then_rt, then_bk, then_ct, fin_rt, fin_nx, asg_name, asg_tup, asgs_nil, asgs_cons, le_line, lt_line, cop_eq, cop_ne, cop_lt, cop_le, cop_gt, cop_ge, cop_in, cop_notin, cop_is0, cop_is1, cop_is2, cop_is3, cop_is4, cop_is5, eq_int, eq_bl, eq_str, tru_non, tru_bl, tru_int, tru_tup, tru_ref, tn_non, tn_bl, tn_int, tn_str, tn_tup, tn_ref, isTn, mt_append, mt_pop0, mt_pop, mt_reverse, mt_clear, mt_join, mt_split, mt_find, mt_startswith, mt_partition, wk_tup, wk_str, wk_ref,
    rdL_cons0, rdL_ro0, rdL_succ, rdM_cons0, rdM_succ, List.map_cons, List.map_nil, List.replicate_succ, List.replicate_zero, List.cons_append, List.nil_append, List.append_nil, List.append_assoc, rdL_at, rdL_at0, rdM_at, rdM_at0, set_at, set_at0, List.length_append, Nat.add_assoc, List.getElem?_cons_succ, List.getElem?_cons_zero, List.set_cons_succ, List.set_cons_zero, Nat.reduceSub, Nat.reduceAdd, Option.map_some, Option.bind_some, Option.some.injEq, exists_eq_left', exists_eq_left, exists_eq', exists_and_left, exists_const, D.int.injEq, D.ref.injEq, D.str.injEq, D.bl.injEq, D.tup.injEq, true_and, and_true, List.length_cons, List.length_nil, atI_lit, ixN_lit, Nat.reduceLT, Nat.reduceLeDiff, Nat.reduceEqDiff, Int.reduceLT, Int.reduceLE, Int.reduceEq, Nat.lt_irrefl, Nat.zero_lt_succ, Nat.reduceMul, Int.reduceNeg, Bool.false_eq_true, if_true, if_false, Nat.zero_add, nlit, eq_self, decide_true, decide_false, reduceIte, Bool.or_false, Bool.false_or, Bool.true_or, Bool.or_true, Bool.and_true, Bool.true_and, Bool.and_false, Bool.false_and, Bool.not_true, Bool.not_false, List.all_cons, List.all_nil, List.any_cons, List.any_nil]
      exact ⟨rfl, .refl _⟩
    · have e2 : decide (r = -1) = false := decide_eq_false hn
      simp only [wp_cons, wp_nil, wx_asgi, ev_lit, ev_var, ev_gl, ev_tup, ev_lst, ev_bin, ev_neg, ev_cmp, ev_chain, ev_and, ev_or, ev_not, ev_ifx, ev_idx, ev_slc, ev_call, ev_blt, ev_isi, ev_isis, ev_mth, ev_lc, ei_val, ei_rng1, ei_rng2, ei_zip, ei_enum, wx_addL, ev_fmt, ev_fstr, ev_tupRg1, ev_tupRg2, wp_fmtS, wp_fmtI, wp_fstr, wp_tupRg, wx_reverse, wp_neg, wp_rng1, wp_rng2, evEs, ev_asg, ev_ex, ev_ret, ev_retn, ev_iff, ev_for, ev_pass, ev_brk, ev_cont, ev_nope, wp_no, evT, evAnd, evOr, evTA, evTO, evP, evC, wp_bnd, wp_ret, wp_opt, wp_see, wp_add, wp_sub, wx_mul, wx_fdiv, wx_mod, wx_addS, wx_addT, wx_idxT, wx_idxL, wx_int, wx_abs, wx_lenL, wx_lenT, wx_lenS, wx_strI, wx_tupT, wx_tupL, wx_listT, wx_listL, wx_listS, wx_slcT, wx_slcL, wx_append, wx_pop0, wx_joinL, wx_split, wx_find, wp_newL, wp_setL, then_nx, then_rt, then_bk, then_ct, fin_rt, fin_nx, asg_name, asg_tup, asgs_nil, asgs_cons, le_line, lt_line, cop_eq, cop_ne, cop_lt, cop_le, cop_gt, cop_ge, cop_in, cop_notin, cop_is0, cop_is1, cop_is2, cop_is3, cop_is4, cop_is5, eq_int, eq_bl, eq_str, tru_non, tru_bl, tru_int, tru_tup, tru_ref, tn_non, tn_bl, tn_int, tn_str, tn_tup, tn_ref, isTn, mt_append, mt_pop0, mt_pop, mt_reverse, mt_clear, mt_join, mt_split, mt_find, mt_startswith, mt_partition, wk_tup, wk_str, wk_ref,
    rdL_cons0, rdL_ro0, rdL_succ, rdM_cons0, rdM_succ, List.map_cons, List.map_nil, List.replicate_succ, List.replicate_zero, List.cons_append, List.nil_append, List.append_nil, List.append_assoc, rdL_at, rdL_at0, rdM_at, rdM_at0, set_at, set_at0, List.length_append, Nat.add_assoc, List.getElem?_cons_succ, List.getElem?_cons_zero, List.set_cons_succ, List.set_cons_zero, Nat.reduceSub, Nat.reduceAdd, Option.map_some, Option.bind_some, Option.some.injEq, exists_eq_left', exists_eq_left, exists_eq', exists_and_left, exists_const, D.int.injEq, D.ref.injEq, D.str.injEq, D.bl.injEq, D.tup.injEq, true_and, and_true, List.length_cons, List.length_nil, atI_lit, ixN_lit, Nat.reduceLT, Nat.reduceLeDiff, Nat.reduceEqDiff, Int.reduceLT, Int.reduceLE, Int.reduceEq, Nat.lt_irrefl, Nat.zero_lt_succ, Nat.reduceMul, Int.reduceNeg, Bool.false_eq_true, if_true, if_false, Nat.zero_add, nlit, eq_self, decide_true, decide_false, reduceIte, Bool.or_false, Bool.false_or, Bool.true_or, Bool.or_true, Bool.and_true, Bool.true_and, Bool.and_false, Bool.false_and, Bool.not_true, Bool.not_false, List.all_cons, List.all_nil, List.any_cons, List.any_nil, e2]
      have hl := len_dig (i := r) (by omega)
      refine ⟨log_dig (by omega), ?_, ?_, .refl _⟩
      · rw [len_do]
        have : (Str.ofString (toString r)).length = 1 := hl
        rw [this]; exact line1000 (by omega)
      · show _ = doT r
        unfold doT
        rw [if_neg (by omega)]; rfl
  | send l os =>
    obtain ⟨h1, h2, h3⟩ := ok
    simp only [Sg.d, wp_cons, wp_nil, wx_asgi, ev_lit, ev_var, ev_gl, ev_tup, ev_lst, ev_bin, ev_neg, ev_cmp, ev_chain, ev_and, ev_or, ev_not, ev_ifx, ev_idx, ev_slc, ev_call, ev_blt, ev_isi, ev_isis, ev_mth, ev_lc, ei_val, ei_rng1, ei_rng2, ei_zip, ei_enum, wx_addL, ev_fmt, ev_fstr, ev_tupRg1, ev_tupRg2, wp_fmtS, wp_fmtI, wp_fstr, wp_tupRg, wx_reverse, wp_neg, wp_rng1, wp_rng2, evEs, ev_asg, ev_ex, ev_ret, ev_retn, ev_iff, ev_for, ev_pass, ev_brk, ev_cont, ev_nope, wp_no, evT, evAnd, evOr, evTA, evTO, evP, evC, wp_bnd, wp_ret, wp_opt, wp_see, wp_add, wp_sub, wx_mul, wx_fdiv, wx_mod, wx_addS, wx_addT, wx_idxT, wx_idxL, wx_int, wx_abs, wx_lenL, wx_lenT, wx_lenS, wx_strI, wx_tupT, wx_tupL, wx_listT, wx_listL, wx_listS, wx_slcT, wx_slcL, wx_append, wx_pop0, wx_joinL, wx_split, wx_find, wp_newL, wp_setL, then_nx, then_rt, then_bk, then_ct, fin_rt, fin_nx, asg_name, asg_tup, asgs_nil, asgs_cons, le_line, lt_line, cop_eq, cop_ne, cop_lt, cop_le, cop_gt, cop_ge, cop_in, cop_notin, cop_is0, cop_is1, cop_is2, cop_is3, cop_is4, cop_is5, eq_int, eq_bl, eq_str, tru_non, tru_bl, tru_int, tru_tup, tru_ref, tn_non, tn_bl, tn_int, tn_str, tn_tup, tn_ref, isTn, mt_append, mt_pop0, mt_pop, mt_reverse, mt_clear, mt_join, mt_split, mt_find, mt_startswith, mt_partition, wk_tup, wk_str, wk_ref,
    rdL_cons0, rdL_ro0, rdL_succ, rdM_cons0, rdM_succ, List.map_cons, List.map_nil, List.replicate_succ, List.replicate_zero, List.cons_append, List.nil_append, List.append_nil, List.append_assoc, rdL_at, rdL_at0, rdM_at, rdM_at0, set_at, set_at0, List.length_append, Nat.add_assoc, List.getElem?_cons_succ, List.getElem?_cons_zero, List.set_cons_succ, List.set_cons_zero, Nat.reduceSub, Nat.reduceAdd, Option.map_some, Option.bind_some, Option.some.injEq, exists_eq_left', exists_eq_left, exists_eq', exists_and_left, exists_const, D.int.injEq, D.ref.injEq, D.str.injEq, D.bl.injEq, D.tup.injEq, true_and, and_true, List.length_cons, List.length_nil, atI_lit, ixN_lit, Nat.reduceLT, Nat.reduceLeDiff, Nat.reduceEqDiff, Int.reduceLT, Int.reduceLE, Int.reduceEq, Nat.lt_irrefl, Nat.zero_lt_succ, Nat.reduceMul, Int.reduceNeg, Bool.false_eq_true, if_true, if_false, Nat.zero_add, nlit, eq_self, decide_true, decide_false, reduceIte, Bool.or_false, Bool.false_or, Bool.true_or, Bool.or_true, Bool.and_true, Bool.true_and, Bool.and_false, Bool.false_and, Bool.not_true, Bool.not_false, List.all_cons, List.all_nil, List.any_cons, List.any_nil]
    have hl : (Str.ofString (toString l)).length = 1 := len_dig (i := l) (by omega)
    have hc1 : ((Str.ofString "send ") ++ (Str.ofString (toString l))).length = 6 := by rw [len_cat, len_send, hl]
    have hc2 : ((Str.ofString "send ") ++ (Str.ofString (toString l)) ++ (Str.ofString " ")).length = 7 := by rw [len_cat, hc1, len_sp]
    refine ⟨log_dig (by omega), by rw [len_send, hl]; exact line1000 (by omega), by rw [hc1, len_sp]; exact line1000 (by omega), ?_⟩
    refine (glued_ok h.lglued h2.sm10 (by have := h2.len; omega)).to fun S1 g1 => ?_
    simp only [wp_cons, wp_nil, wx_asgi, ev_lit, ev_var, ev_gl, ev_tup, ev_lst, ev_bin, ev_neg, ev_cmp, ev_chain, ev_and, ev_or, ev_not, ev_ifx, ev_idx, ev_slc, ev_call, ev_blt, ev_isi, ev_isis, ev_mth, ev_lc, ei_val, ei_rng1, ei_rng2, ei_zip, ei_enum, wx_addL, ev_fmt, ev_fstr, ev_tupRg1, ev_tupRg2, wp_fmtS, wp_fmtI, wp_fstr, wp_tupRg, wx_reverse, wp_neg, wp_rng1, wp_rng2, evEs, ev_asg, ev_ex, ev_ret, ev_retn, ev_iff, ev_for, ev_pass, ev_brk, ev_cont, ev_nope, wp_no, evT, evAnd, evOr, evTA, evTO, evP, evC, wp_bnd, wp_ret, wp_opt, wp_see, wp_add, wp_sub, wx_mul, wx_fdiv, wx_mod, wx_addS, wx_addT, wx_idxT, wx_idxL, wx_int, wx_abs, wx_lenL, wx_lenT, wx_lenS, wx_strI, wx_tupT, wx_tupL, wx_listT, wx_listL, wx_listS, wx_slcT, wx_slcL, wx_append, wx_pop0, wx_joinL, wx_split, wx_find, wp_newL, wp_setL, then_nx, then_rt, then_bk, then_ct, fin_rt, fin_nx, asg_name, asg_tup, asgs_nil, asgs_cons, le_line, lt_line, cop_eq, cop_ne, cop_lt, cop_le, cop_gt, cop_ge, cop_in, cop_notin, cop_is0, cop_is1, cop_is2, cop_is3, cop_is4, cop_is5, eq_int, eq_bl, eq_str, tru_non, tru_bl, tru_int, tru_tup, tru_ref, tn_non, tn_bl, tn_int, tn_str, tn_tup, tn_ref, isTn, mt_append, mt_pop0, mt_pop, mt_reverse, mt_clear, mt_join, mt_split, mt_find, mt_startswith, mt_partition, wk_tup, wk_str, wk_ref,
    rdL_cons0, rdL_ro0, rdL_succ, rdM_cons0, rdM_succ, List.map_cons, List.map_nil, List.replicate_succ, List.replicate_zero, List.cons_append, List.nil_append, List.append_nil, List.append_assoc, rdL_at, rdL_at0, rdM_at, rdM_at0, set_at, set_at0, List.length_append, Nat.add_assoc, List.getElem?_cons_succ, List.getElem?_cons_zero, List.set_cons_succ, List.set_cons_zero, Nat.reduceSub, Nat.reduceAdd, Option.map_some, Option.bind_some, Option.some.injEq, exists_eq_left', exists_eq_left, exists_eq', exists_and_left, exists_const, D.int.injEq, D.ref.injEq, D.str.injEq, D.bl.injEq, D.tup.injEq, true_and, and_true, List.length_cons, List.length_nil, atI_lit, ixN_lit, Nat.reduceLT, Nat.reduceLeDiff, Nat.reduceEqDiff, Int.reduceLT, Int.reduceLE, Int.reduceEq, Nat.lt_irrefl, Nat.zero_lt_succ, Nat.reduceMul, Int.reduceNeg, Bool.false_eq_true, if_true, if_false, Nat.zero_add, nlit, eq_self, decide_true, decide_false, reduceIte, Bool.or_false, Bool.false_or, Bool.true_or, Bool.or_true, Bool.and_true, Bool.true_and, Bool.and_false, Bool.false_and, Bool.not_true, Bool.not_false, List.all_cons, List.all_nil, List.any_cons, List.any_nil]
    refine ⟨?_, rfl, g1⟩
    have := glued_len h2.sm10
    have := h2.len
    rw [hc2]; exact line1000 (by omega)
theorem show_step_ok (h : FT ds con) {s : Sg} (ok : s.Ok) : Pu (callD ds con fuel (k + 2) "show_step" [s.d]) S (.str s.t) := by
  refine pu_call h.sstep rfl rfl ?_
  simp only [Lib.df_show_step, Lib.b_show_step]
  cases s with
  | go r =>
    have hr : -1 ≤ r ∧ r ≤ 9 := ok
    have e1 : decide (Str.ofString "do" = Str.ofString "send") = false := by decide +kernel
    simp only [Sg.d, wp_cons, wp_nil, wx_asgi, ev_lit, ev_var, ev_gl, ev_tup, ev_lst, ev_bin, ev_neg, ev_cmp, ev_chain, ev_and, ev_or, ev_not, ev_ifx, ev_idx, ev_slc, ev_call, ev_blt, ev_isi, ev_isis, ev_mth, ev_lc, ei_val, ei_rng1, ei_rng2, ei_zip, ei_enum, wx_addL, ev_fmt, ev_fstr, ev_tupRg1, ev_tupRg2, wp_fmtS, wp_fmtI, wp_fstr, wp_tupRg, wx_reverse, wp_neg, wp_rng1, wp_rng2, evEs, ev_asg, ev_ex, ev_ret, ev_retn, ev_iff, ev_for, ev_pass, ev_brk, ev_cont, ev_nope, wp_no, evT, evAnd, evOr, evTA, evTO, evP, evC, wp_bnd, wp_ret, wp_opt, wp_see, wp_add, wp_sub, wx_mul, wx_fdiv, wx_mod, wx_addS, wx_addT, wx_idxT, wx_idxL, wx_int, wx_abs, wx_lenL, wx_lenT, wx_lenS, wx_strI, wx_tupT, wx_tupL, wx_listT, wx_listL, wx_listS, wx_slcT, wx_slcL, wx_append, wx_pop0, wx_joinL, wx_split, wx_find, wp_newL, wp_setL, then_nx, then_rt, then_bk, then_ct, fin_rt, fin_nx, asg_name, asg_tup, asgs_nil, asgs_cons, le_line, lt_line, cop_eq, cop_ne, cop_lt, cop_le, cop_gt, cop_ge, cop_in, cop_notin, cop_is0, cop_is1, cop_is2, cop_is3, cop_is4, cop_is5, eq_int, eq_bl, eq_str, tru_non, tru_bl, tru_int, tru_tup, tru_ref, tn_non, tn_bl, tn_int, tn_str, tn_tup, tn_ref, isTn, mt_append, mt_pop0, mt_pop, mt_reverse, mt_clear, mt_join, mt_split, mt_find, mt_startswith, mt_partition, wk_tup, wk_str, wk_ref,
    rdL_cons0, rdL_ro0, rdL_succ, rdM_cons0, rdM_succ, List.map_cons, List.map_nil, List.replicate_succ, List.replicate_zero, List.cons_append, List.nil_append, List.append_nil, List.append_assoc, rdL_at, rdL_at0, rdM_at, rdM_at0, set_at, set_at0, List.length_append, Nat.add_assoc, List.getElem?_cons_succ, List.getElem?_cons_zero, List.set_cons_succ, List.set_cons_zero, Nat.reduceSub, Nat.reduceAdd, Option.map_some, Option.bind_some, Option.some.injEq, exists_eq_left', exists_eq_left, exists_eq', exists_and_left, exists_const, D.int.injEq, D.ref.injEq, D.str.injEq, D.bl.injEq, D.tup.injEq, true_and, and_true, List.length_cons, List.length_nil, atI_lit, ixN_lit, Nat.reduceLT, Nat.reduceLeDiff, Nat.reduceEqDiff, Int.reduceLT, Int.reduceLE, Int.reduceEq, Nat.lt_irrefl, Nat.zero_lt_succ, Nat.reduceMul, Int.reduceNeg, Bool.false_eq_true, if_true, if_false, Nat.zero_add, nlit, eq_self, decide_true, decide_false, reduceIte, Bool.or_false, Bool.false_or, Bool.true_or, Bool.or_true, Bool.and_true, Bool.true_and, Bool.and_false, Bool.false_and, Bool.not_true, Bool.not_false, List.all_cons, List.all_nil, List.any_cons, List.any_nil, e1]
    by_cases hn : r < 0
    · simp only [wp_cons, wp_nil, wx_asgi, ev_lit, ev_var, ev_gl, ev_tup, ev_lst, ev_bin, ev_neg, ev_cmp, ev_chain, ev_and, ev_or, ev_not, ev_ifx, ev_idx, ev_slc, ev_call, ev_blt, ev_isi, ev_isis, ev_mth, ev_lc, ei_val, ei_rng1, ei_rng2, ei_zip, ei_enum, wx_addL, ev_fmt, ev_fstr, ev_tupRg1, ev_tupRg2, wp_fmtS, wp_fmtI, wp_fstr, wp_tupRg, wx_reverse, wp_neg, wp_rng1, wp_rng2, evEs, ev_asg, ev_ex, ev_ret, ev_retn, ev_iff, ev_for, ev_pass, ev_brk, ev_cont, ev_nope, wp_no, evT, evAnd, evOr, evTA, evTO, evP, evC, wp_bnd, wp_ret, wp_opt, wp_see, wp_add, wp_sub, wx_mul, wx_fdiv, wx_mod, wx_addS, wx_addT, wx_idxT, wx_idxL, wx_int, wx_abs, wx_lenL, wx_lenT, wx_lenS, wx_strI, wx_tupT, wx_tupL, wx_listT, wx_listL, wx_listS, wx_slcT, wx_slcL, wx_append, wx_pop0, wx_joinL, wx_split, wx_find, wp_newL, wp_setL, then_nx, then_rt, then_bk, then_ct, fin_rt, fin_nx, asg_name, asg_tup, asgs_nil, asgs_cons, le_line, lt_line, cop_eq, cop_ne, cop_lt, cop_le, cop_gt, cop_ge, cop_in, cop_notin, cop_is0, cop_is1, cop_is2, cop_is3, cop_is4, cop_is5, eq_int, eq_bl, eq_str, tru_non, tru_bl, tru_int, tru_tup, tru_ref, tn_non, tn_bl, tn_int, tn_str, tn_tup, tn_ref, isTn, mt_append, mt_pop0, mt_pop, mt_reverse, mt_clear, mt_join, mt_split, mt_find, mt_startswith, mt_partition, wk_tup, wk_str, wk_ref,
    rdL_cons0, rdL_ro0, rdL_succ, rdM_cons0, rdM_succ, List.map_cons, List.map_nil, List.replicate_succ, List.replicate_zero, List.cons_append, List.nil_append, List.append_nil, List.append_assoc, rdL_at, rdL_at0, rdM_at, rdM_at0, set_at, set_at0, List.length_append, Nat.add_assoc, List.getElem?_cons_succ, List.getElem?_cons_zero, List.set_cons_succ, List.set_cons_zero, Nat.reduceSub, Nat.reduceAdd, Option.map_some, Option.bind_some, Option.some.injEq, exists_eq_left', exists_eq_left, exists_eq', exists_and_left, exists_const, D.int.injEq, D.ref.injEq, D.str.injEq, D.bl.injEq, D.tup.injEq, true_and, and_true, List.length_cons, List.length_nil, atI_lit, ixN_lit, Nat.reduceLT, Nat.reduceLeDiff, Nat.reduceEqDiff, Int.reduceLT, Int.reduceLE, Int.reduceEq, Nat.lt_irrefl, Nat.zero_lt_succ, Nat.reduceMul, Int.reduceNeg, Bool.false_eq_true, if_true, if_false, Nat.zero_add, nlit, eq_self, decide_true, decide_false, reduceIte, Bool.or_false, Bool.false_or, Bool.true_or, Bool.or_true, Bool.and_true, Bool.true_and, Bool.and_false, Bool.false_and, Bool.not_true, Bool.not_false, List.all_cons, List.all_nil, List.any_cons, List.any_nil, hn]
      exact ⟨(doT_neg hn).symm, .refl _⟩
    · simp only [wp_cons, wp_nil, wx_asgi, ev_lit, ev_var, ev_gl, ev_tup, ev_lst, ev_bin, ev_neg, ev_cmp, ev_chain, ev_and, ev_or, ev_not, ev_ifx, ev_idx, ev_slc, ev_call, ev_blt, ev_isi, ev_isis, ev_mth, ev_lc, ei_val, ei_rng1, ei_rng2, ei_zip, ei_enum, wx_addL, ev_fmt, ev_fstr, ev_tupRg1, ev_tupRg2, wp_fmtS, wp_fmtI, wp_fstr, wp_tupRg, wx_reverse, wp_neg, wp_rng1, wp_rng2, evEs, ev_asg, ev_ex, ev_ret, ev_retn, ev_iff, ev_for, ev_pass, ev_brk, ev_cont, ev_nope, wp_no, evT, evAnd, evOr, evTA, evTO, evP, evC, wp_bnd, wp_ret, wp_opt, wp_see, wp_add, wp_sub, wx_mul, wx_fdiv, wx_mod, wx_addS, wx_addT, wx_idxT, wx_idxL, wx_int, wx_abs, wx_lenL, wx_lenT, wx_lenS, wx_strI, wx_tupT, wx_tupL, wx_listT, wx_listL, wx_listS, wx_slcT, wx_slcL, wx_append, wx_pop0, wx_joinL, wx_split, wx_find, wp_newL, wp_setL, then_nx, then_rt, then_bk, then_ct, fin_rt, fin_nx, asg_name, asg_tup, asgs_nil, asgs_cons, le_line, lt_line, cop_eq, cop_ne, cop_lt, cop_le, cop_gt, cop_ge, cop_in, cop_notin, cop_is0, cop_is1, cop_is2, cop_is3, cop_is4, cop_is5, eq_int, eq_bl, eq_str, tru_non, tru_bl, tru_int, tru_tup, tru_ref, tn_non, tn_bl, tn_int, tn_str, tn_tup, tn_ref, isTn, mt_append, mt_pop0, mt_pop, mt_reverse, mt_clear, mt_join, mt_split, mt_find, mt_startswith, mt_partition, wk_tup, wk_str, wk_ref,
    rdL_cons0, rdL_ro0, rdL_succ, rdM_cons0, rdM_succ, List.map_cons, List.map_nil, List.replicate_succ, List.replicate_zero, List.cons_append, List.nil_append, List.append_nil, List.append_assoc, rdL_at, rdL_at0, rdM_at, rdM_at0, set_at, set_at0, List.length_append, Nat.add_assoc, List.getElem?_cons_succ, List.getElem?_cons_zero, List.set_cons_succ, List.set_cons_zero, Nat.reduceSub, Nat.reduceAdd, Option.map_some, Option.bind_some, Option.some.injEq, exists_eq_left', exists_eq_left, exists_eq', exists_and_left, exists_const, D.int.injEq, D.ref.injEq, D.str.injEq, D.bl.injEq, D.tup.injEq, true_and, and_true, List.length_cons, List.length_nil, atI_lit, ixN_lit, Nat.reduceLT, Nat.reduceLeDiff, Nat.reduceEqDiff, Int.reduceLT, Int.reduceLE, Int.reduceEq, Nat.lt_irrefl, Nat.zero_lt_succ, Nat.reduceMul, Int.reduceNeg, Bool.false_eq_true, if_true, if_false, Nat.zero_add, nlit, eq_self, decide_true, decide_false, reduceIte, Bool.or_false, Bool.false_or, Bool.true_or, Bool.or_true, Bool.and_true, Bool.true_and, Bool.and_false, Bool.false_and, Bool.not_true, Bool.not_false, List.all_cons, List.all_nil, List.any_cons, List.any_nil, hn, decide_false]
      have hl := len_dig (i := r) (by omega)
      refine ⟨log_dig (by omega), _, strsOf_map [_, _], ?_, ?_, .refl _⟩
      · have e : (Str.ofString (toString r)).length = 1 := hl
        simp only [sumL, len_do, e]; exact line1000 (by omega)
      · rw [cat2]
        show _ = doT r
        unfold doT
        rw [if_neg hn]; rfl
  | send l os =>
    obtain ⟨h1, h2, h3⟩ := ok
    simp only [Sg.d, wp_cons, wp_nil, wx_asgi, ev_lit, ev_var, ev_gl, ev_tup, ev_lst, ev_bin, ev_neg, ev_cmp, ev_chain, ev_and, ev_or, ev_not, ev_ifx, ev_idx, ev_slc, ev_call, ev_blt, ev_isi, ev_isis, ev_mth, ev_lc, ei_val, ei_rng1, ei_rng2, ei_zip, ei_enum, wx_addL, ev_fmt, ev_fstr, ev_tupRg1, ev_tupRg2, wp_fmtS, wp_fmtI, wp_fstr, wp_tupRg, wx_reverse, wp_neg, wp_rng1, wp_rng2, evEs, ev_asg, ev_ex, ev_ret, ev_retn, ev_iff, ev_for, ev_pass, ev_brk, ev_cont, ev_nope, wp_no, evT, evAnd, evOr, evTA, evTO, evP, evC, wp_bnd, wp_ret, wp_opt, wp_see, wp_add, wp_sub, wx_mul, wx_fdiv, wx_mod, wx_addS, wx_addT, wx_idxT, wx_idxL, wx_int, wx_abs, wx_lenL, wx_lenT, wx_lenS, wx_strI, wx_tupT, wx_tupL, wx_listT, wx_listL, wx_listS, wx_slcT, wx_slcL, wx_append, wx_pop0, wx_joinL, wx_split, wx_find, wp_newL, wp_setL, then_nx, then_rt, then_bk, then_ct, fin_rt, fin_nx, asg_name, asg_tup, asgs_nil, asgs_cons, le_line, lt_line, cop_eq, cop_ne, cop_lt, cop_le, cop_gt, cop_ge, cop_in, cop_notin, cop_is0, cop_is1, cop_is2, cop_is3, cop_is4, cop_is5, eq_int, eq_bl, eq_str, tru_non, tru_bl, tru_int, tru_tup, tru_ref, tn_non, tn_bl, tn_int, tn_str, tn_tup, tn_ref, isTn, mt_append, mt_pop0, mt_pop, mt_reverse, mt_clear, mt_join, mt_split, mt_find, mt_startswith, mt_partition, wk_tup, wk_str, wk_ref,
    rdL_cons0, rdL_ro0, rdL_succ, rdM_cons0, rdM_succ, List.map_cons, List.map_nil, List.replicate_succ, List.replicate_zero, List.cons_append, List.nil_append, List.append_nil, List.append_assoc, rdL_at, rdL_at0, rdM_at, rdM_at0, set_at, set_at0, List.length_append, Nat.add_assoc, List.getElem?_cons_succ, List.getElem?_cons_zero, List.set_cons_succ, List.set_cons_zero, Nat.reduceSub, Nat.reduceAdd, Option.map_some, Option.bind_some, Option.some.injEq, exists_eq_left', exists_eq_left, exists_eq', exists_and_left, exists_const, D.int.injEq, D.ref.injEq, D.str.injEq, D.bl.injEq, D.tup.injEq, true_and, and_true, List.length_cons, List.length_nil, atI_lit, ixN_lit, Nat.reduceLT, Nat.reduceLeDiff, Nat.reduceEqDiff, Int.reduceLT, Int.reduceLE, Int.reduceEq, Nat.lt_irrefl, Nat.zero_lt_succ, Nat.reduceMul, Int.reduceNeg, Bool.false_eq_true, if_true, if_false, Nat.zero_add, nlit, eq_self, decide_true, decide_false, reduceIte, Bool.or_false, Bool.false_or, Bool.true_or, Bool.or_true, Bool.and_true, Bool.true_and, Bool.and_false, Bool.false_and, Bool.not_true, Bool.not_false, List.all_cons, List.all_nil, List.any_cons, List.any_nil]
    have hl : (Str.ofString (toString l)).length = 1 := len_dig (i := l) (by omega)
    refine ⟨log_dig (by omega), ?_⟩
    refine (joined_digits_ok h.joined h2.sm10 (by have := h2.len; omega)).to fun S1 g1 => ?_
    have := glued_len h2.sm10
    have := h2.len
    simp only [wp_cons, wp_nil, wx_asgi, ev_lit, ev_var, ev_gl, ev_tup, ev_lst, ev_bin, ev_neg, ev_cmp, ev_chain, ev_and, ev_or, ev_not, ev_ifx, ev_idx, ev_slc, ev_call, ev_blt, ev_isi, ev_isis, ev_mth, ev_lc, ei_val, ei_rng1, ei_rng2, ei_zip, ei_enum, wx_addL, ev_fmt, ev_fstr, ev_tupRg1, ev_tupRg2, wp_fmtS, wp_fmtI, wp_fstr, wp_tupRg, wx_reverse, wp_neg, wp_rng1, wp_rng2, evEs, ev_asg, ev_ex, ev_ret, ev_retn, ev_iff, ev_for, ev_pass, ev_brk, ev_cont, ev_nope, wp_no, evT, evAnd, evOr, evTA, evTO, evP, evC, wp_bnd, wp_ret, wp_opt, wp_see, wp_add, wp_sub, wx_mul, wx_fdiv, wx_mod, wx_addS, wx_addT, wx_idxT, wx_idxL, wx_int, wx_abs, wx_lenL, wx_lenT, wx_lenS, wx_strI, wx_tupT, wx_tupL, wx_listT, wx_listL, wx_listS, wx_slcT, wx_slcL, wx_append, wx_pop0, wx_joinL, wx_split, wx_find, wp_newL, wp_setL, then_nx, then_rt, then_bk, then_ct, fin_rt, fin_nx, asg_name, asg_tup, asgs_nil, asgs_cons, le_line, lt_line, cop_eq, cop_ne, cop_lt, cop_le, cop_gt, cop_ge, cop_in, cop_notin, cop_is0, cop_is1, cop_is2, cop_is3, cop_is4, cop_is5, eq_int, eq_bl, eq_str, tru_non, tru_bl, tru_int, tru_tup, tru_ref, tn_non, tn_bl, tn_int, tn_str, tn_tup, tn_ref, isTn, mt_append, mt_pop0, mt_pop, mt_reverse, mt_clear, mt_join, mt_split, mt_find, mt_startswith, mt_partition, wk_tup, wk_str, wk_ref,
    rdL_cons0, rdL_ro0, rdL_succ, rdM_cons0, rdM_succ, List.map_cons, List.map_nil, List.replicate_succ, List.replicate_zero, List.cons_append, List.nil_append, List.append_nil, List.append_assoc, rdL_at, rdL_at0, rdM_at, rdM_at0, set_at, set_at0, List.length_append, Nat.add_assoc, List.getElem?_cons_succ, List.getElem?_cons_zero, List.set_cons_succ, List.set_cons_zero, Nat.reduceSub, Nat.reduceAdd, Option.map_some, Option.bind_some, Option.some.injEq, exists_eq_left', exists_eq_left, exists_eq', exists_and_left, exists_const, D.int.injEq, D.ref.injEq, D.str.injEq, D.bl.injEq, D.tup.injEq, true_and, and_true, List.length_cons, List.length_nil, atI_lit, ixN_lit, Nat.reduceLT, Nat.reduceLeDiff, Nat.reduceEqDiff, Int.reduceLT, Int.reduceLE, Int.reduceEq, Nat.lt_irrefl, Nat.zero_lt_succ, Nat.reduceMul, Int.reduceNeg, Bool.false_eq_true, if_true, if_false, Nat.zero_add, nlit, eq_self, decide_true, decide_false, reduceIte, Bool.or_false, Bool.false_or, Bool.true_or, Bool.or_true, Bool.and_true, Bool.true_and, Bool.and_false, Bool.false_and, Bool.not_true, Bool.not_false, List.all_cons, List.all_nil, List.any_cons, List.any_nil]
    refine ⟨line1000 (by omega), _, strsOf_map [_, _, _, _], ?_, ?_, g1⟩
    · simp only [sumL, len_send, len_sp, hl]; exact line1000 (by omega)
    · rw [cat4]; rfl
end
end My

/-! Steps read. -/
namespace My
open PySem PySem.Spec PyProof.Rows L2
theorem allO_str {S : Store} {f : Nat} : ∀ xs : List Str, (∀ x ∈ xs, PyData.strOk x = true) → allO (toP S f) (xs.map .str) = some (xs.map PyData.str)
  | [], _ => rfl
  | x :: xs, h => by
    have e : toP S f (.str x) = some (.str x) := by cases f <;> simp only [toP, h x List.mem_cons_self, if_true]
    simp only [List.map_cons, allO, e, allO_str xs fun y hy => h y (List.mem_cons_of_mem _ hy)]
theorem eqv_strs : ∀ xs ys : List Str, PyData.eqvAll (xs.map PyData.str) (ys.map PyData.str) = decide (xs = ys)
  | [], [] => rfl
  | [], _ :: _ => rfl
  | _ :: _, [] => rfl
  | x :: xs, y :: ys => by
    simp only [List.map_cons, PyData.eqvAll, PyData.eqv, eqv_strs xs ys]
    by_cases h : x = y
    · subst h; simp
    · simp [h]
theorem eq_ref {S : Store} {n m : Nat} {p q : List PyData} {xs ys : List D} (h1 : rdL S n = some xs) (h2 : rdL S m = some ys) (e1 : allO (toP S 15) xs = some p) (e2 : allO (toP S 15) ys = some q) : eqF S (.ref n) (.ref m) = some (PyData.eqvAll p q) := by
  have f1 : toP S 16 (.ref n) = some (.list p) := by simp only [toP, h1, Option.bind_some, e1, Option.map_some]
  have f2 : toP S 16 (.ref m) = some (.list q) := by simp only [toP, h2, Option.bind_some, e2, Option.map_some]
  have e : eqF S (.ref n) (.ref m) = (match toP S 16 (.ref n), toP S 16 (.ref m) with
      | some x, some y => some (PyData.eqv x y)
      | _, _ => none) := rfl
  rw [e, f1, f2]
  simp only [PyData.eqv]
theorem eq_refS {S : Store} {n m : Nat} {xs ys : List Str} (h1 : rdL S n = some (xs.map .str)) (h2 : rdL S m = some (ys.map .str)) (o1 : ∀ x ∈ xs, PyData.strOk x = true) (o2 : ∀ x ∈ ys, PyData.strOk x = true) : eqF S (.ref n) (.ref m) = some (decide (xs = ys)) := by
  rw [eq_ref h1 h2 (allO_str xs o1) (allO_str ys o2), eqv_strs]
theorem strOk_tl {x : Str} (h : (TL.tl x).all (fun c => decide (c < 128)) = true) : PyData.strOk x = true := by
  unfold PyData.strOk
  rw [← Array.all_toList, List.all_eq_true]
  intro c hc
  have h2 := List.all_eq_true.mp h c hc
  simp only [decide_eq_true_eq] at h2 ⊢
  omega
theorem strOk_dig {i : Int} (h : 0 ≤ i ∧ i < 10) : PyData.strOk (dig i) = true := by
  refine strOk_tl ?_
  rw [tl_dig h]; simp; omega
theorem strOk_glued {xs : List Int} (h : Sm10 xs) : PyData.strOk (glued xs) = true := by
  refine strOk_tl ?_
  rw [tl_glued h, List.all_map, List.all_eq_true]
  intro i hi
  have := h i hi
  simp; omega
def doW (r : Int) : List Str := if r < 0 then ["do", "."] else ["do", dig r]
def sendW (l : Int) (os : List Int) : List Str := ["send", dig l, glued os]
theorem split_at32 {x : Str} {ws : List Str} (hj : TL.tl x = TL.joinL [32] (ws.map TL.tl)) (hne : ws ≠ []) (h : ∀ w ∈ ws, 32 ∉ TL.tl w) : Txt.split x " " = ws := by
  have e : x = Str.join " " ws := TL.ext_tl (by rw [hj, TL.tl_join, tl_sp])
  rw [e, ← TL.join_eq]
  exact TL.split_join (s := 32) (S := []) tl_sp (by decide +kernel) hne h
theorem split_do {r : Int} (h : -1 ≤ r ∧ r ≤ 9) : Txt.split (doT r) " " = doW r := by
  by_cases hr : r < 0
  · rw [doT_neg hr]
    unfold doW
    rw [if_pos hr]
    refine split_at32 (by decide +kernel) (by simp) fun w hw => ?_
    simp only [List.mem_cons, List.not_mem_nil, or_false] at hw
    rcases hw with rfl | rfl <;> decide +kernel
  · unfold doW
    rw [if_neg hr]
    refine split_at32 ?_ (by simp) fun w hw => ?_
    · have e : TL.tl ("do" : Str) = [100, 111] := by decide +kernel
      rw [tl_doT (by omega)]
      simp only [List.map_cons, List.map_nil, TL.joinL, e, tl_dig (i := r) (by omega)]
      rfl
    · simp only [List.mem_cons, List.not_mem_nil, or_false] at hw
      rcases hw with rfl | rfl
      · decide +kernel
      · exact nob_dig (by omega)
theorem split_send {l : Int} {os : List Int} (h : 0 ≤ l ∧ l ≤ 9) (ho : Sm10 os) : Txt.split (sendT l os) " " = sendW l os := by
  refine split_at32 ?_ (by simp [sendW]) fun w hw => ?_
  · have e : TL.tl ("send" : Str) = [115, 101, 110, 100] := by decide +kernel
    rw [tl_sendT h ho]
    simp only [sendW, List.map_cons, List.map_nil, TL.joinL, e, tl_dig (i := l) (by omega), tl_glued ho]
    simp
  · simp only [sendW, List.mem_cons, List.not_mem_nil, or_false] at hw
    rcases hw with rfl | rfl | rfl
    · decide +kernel
    · exact nob_dig (by omega)
    · rw [tl_glued ho]
      simp only [List.mem_map, not_exists, not_and]
      intro i _
      omega
section
variable {ds : List Df} {con : Str → Option D} {fuel k : Nat} {S : Store}
theorem ok_do : PyData.strOk (Str.ofString "do") = true := by decide +kernel
theorem ok_send : PyData.strOk (Str.ofString "send") = true := by decide +kernel
theorem ok_dot : PyData.strOk (Str.ofString ".") = true := by decide +kernel
theorem read_step_ok (h : FT ds con) {s : Sg} (ok : s.Ok) : Pu (callD ds con fuel (k + 4) "read_step" [.str s.t]) S s.d := by
  refine pu_call h.rstep rfl rfl ?_
  simp only [Lib.df_read_step, Lib.b_read_step]
  have hlen := t_len ok
  simp only [wp_cons, wp_nil, wx_asgi, ev_lit, ev_var, ev_gl, ev_tup, ev_lst, ev_bin, ev_neg, ev_cmp, ev_chain, ev_and, ev_or, ev_not, ev_ifx, ev_idx, ev_slc, ev_call, ev_blt, ev_isi, ev_isis, ev_mth, ev_lc, ei_val, ei_rng1, ei_rng2, ei_zip, ei_enum, wx_addL, ev_fmt, ev_fstr, ev_tupRg1, ev_tupRg2, wp_fmtS, wp_fmtI, wp_fstr, wp_tupRg, wx_reverse, wp_neg, wp_rng1, wp_rng2, evEs, ev_asg, ev_ex, ev_ret, ev_retn, ev_iff, ev_for, ev_pass, ev_brk, ev_cont, ev_nope, wp_no, evT, evAnd, evOr, evTA, evTO, evP, evC, wp_bnd, wp_ret, wp_opt, wp_see, wp_add, wp_sub, wx_mul, wx_fdiv, wx_mod, wx_addS, wx_addT, wx_idxT, wx_idxL, wx_int, wx_abs, wx_lenL, wx_lenT, wx_lenS, wx_strI, wx_tupT, wx_tupL, wx_listT, wx_listL, wx_listS, wx_slcT, wx_slcL, wx_append, wx_pop0, wx_joinL, wx_split, wx_find, wp_newL, wp_setL, then_nx, then_rt, then_bk, then_ct, fin_rt, fin_nx, asg_name, asg_tup, asgs_nil, asgs_cons, le_line, lt_line, cop_eq, cop_ne, cop_lt, cop_le, cop_gt, cop_ge, cop_in, cop_notin, cop_is0, cop_is1, cop_is2, cop_is3, cop_is4, cop_is5, eq_int, eq_bl, eq_str, tru_non, tru_bl, tru_int, tru_tup, tru_ref, tn_non, tn_bl, tn_int, tn_str, tn_tup, tn_ref, isTn, mt_append, mt_pop0, mt_pop, mt_reverse, mt_clear, mt_join, mt_split, mt_find, mt_startswith, mt_partition, wk_tup, wk_str, wk_ref,
    rdL_cons0, rdL_ro0, rdL_succ, rdM_cons0, rdM_succ, List.map_cons, List.map_nil, List.replicate_succ, List.replicate_zero, List.cons_append, List.nil_append, List.append_nil, List.append_assoc, rdL_at, rdL_at0, rdM_at, rdM_at0, set_at, set_at0, List.length_append, Nat.add_assoc, List.getElem?_cons_succ, List.getElem?_cons_zero, List.set_cons_succ, List.set_cons_zero, Nat.reduceSub, Nat.reduceAdd, Option.map_some, Option.bind_some, Option.some.injEq, exists_eq_left', exists_eq_left, exists_eq', exists_and_left, exists_const, D.int.injEq, D.ref.injEq, D.str.injEq, D.bl.injEq, D.tup.injEq, true_and, and_true, List.length_cons, List.length_nil, atI_lit, ixN_lit, Nat.reduceLT, Nat.reduceLeDiff, Nat.reduceEqDiff, Int.reduceLT, Int.reduceLE, Int.reduceEq, Nat.lt_irrefl, Nat.zero_lt_succ, Nat.reduceMul, Int.reduceNeg, Bool.false_eq_true, if_true, if_false, Nat.zero_add, nlit, eq_self, decide_true, decide_false, reduceIte, Bool.or_false, Bool.false_or, Bool.true_or, Bool.or_true, Bool.and_true, Bool.true_and, Bool.and_false, Bool.false_and, Bool.not_true, Bool.not_false, List.all_cons, List.all_nil, List.any_cons, List.any_nil]
  refine ⟨⟨by decide +kernel, line1000 (by omega)⟩, ?_⟩
  have o2 : ∀ x ∈ [Str.ofString "do", Str.ofString "."], PyData.strOk x = true := by
    intro x hx
    simp only [List.mem_cons, List.not_mem_nil, or_false] at hx
    rcases hx with rfl | rfl
    · exact ok_do
    · exact ok_dot
  cases s with
  | go r =>
    have hr : -1 ≤ r ∧ r ≤ 9 := ok
    simp only [Sg.t, Sg.d, split_do hr]
    have eq1 : eqF (S ++ [Ob.lst ((doW r).map D.str), Ob.lst [D.str (Str.ofString "do"), D.str (Str.ofString ".")]]) (.ref S.length) (.ref (S.length + 1)) = some (decide (r < 0)) := by
      rw [eq_refS (xs := doW r) (ys := [Str.ofString "do", Str.ofString "."]) (by simp only [wp_cons, wp_nil, wx_asgi, ev_lit, ev_var, ev_gl, ev_tup, ev_lst, ev_bin, ev_neg, ev_cmp, ev_chain, ev_and, ev_or, ev_not, ev_ifx, ev_idx, ev_slc, ev_call, ev_blt, ev_isi, ev_isis, ev_mth, ev_lc, ei_val, ei_rng1, ei_rng2, ei_zip, ei_enum, wx_addL, ev_fmt, ev_fstr, ev_tupRg1, ev_tupRg2, wp_fmtS, wp_fmtI, wp_fstr, wp_tupRg, wx_reverse, wp_neg, wp_rng1, wp_rng2, evEs, ev_asg, ev_ex, ev_ret, ev_retn, ev_iff, ev_for, ev_pass, ev_brk, ev_cont, ev_nope, wp_no, evT, evAnd, evOr, evTA, evTO, evP, evC, wp_bnd, wp_ret, wp_opt, wp_see, wp_add, wp_sub, wx_mul, wx_fdiv, wx_mod, wx_addS, wx_addT, wx_idxT, wx_idxL, wx_int, wx_abs, wx_lenL, wx_lenT, wx_lenS, wx_strI, wx_tupT, wx_tupL, wx_listT, wx_listL, wx_listS, wx_slcT, wx_slcL, wx_append, wx_pop0, wx_joinL, wx_split, wx_find, wp_newL, wp_setL, then_nx, then_rt, then_bk, then_ct, fin_rt, fin_nx, asg_name, asg_tup, asgs_nil, asgs_cons, le_line, lt_line, cop_eq, cop_ne, cop_lt, cop_le, cop_gt, cop_ge, cop_in, cop_notin, cop_is0, cop_is1, cop_is2, cop_is3, cop_is4, cop_is5, eq_int, eq_bl, eq_str, tru_non, tru_bl, tru_int, tru_tup, tru_ref, tn_non, tn_bl, tn_int, tn_str, tn_tup, tn_ref, isTn, mt_append, mt_pop0, mt_pop, mt_reverse, mt_clear, mt_join, mt_split, mt_find, mt_startswith, mt_partition, wk_tup, wk_str, wk_ref,
    rdL_cons0, rdL_ro0, rdL_succ, rdM_cons0, rdM_succ, List.map_cons, List.map_nil, List.replicate_succ, List.replicate_zero, List.cons_append, List.nil_append, List.append_nil, List.append_assoc, rdL_at, rdL_at0, rdM_at, rdM_at0, set_at, set_at0, List.length_append, Nat.add_assoc, List.getElem?_cons_succ, List.getElem?_cons_zero, List.set_cons_succ, List.set_cons_zero, Nat.reduceSub, Nat.reduceAdd, Option.map_some, Option.bind_some, Option.some.injEq, exists_eq_left', exists_eq_left, exists_eq', exists_and_left, exists_const, D.int.injEq, D.ref.injEq, D.str.injEq, D.bl.injEq, D.tup.injEq, true_and, and_true, List.length_cons, List.length_nil, atI_lit, ixN_lit, Nat.reduceLT, Nat.reduceLeDiff, Nat.reduceEqDiff, Int.reduceLT, Int.reduceLE, Int.reduceEq, Nat.lt_irrefl, Nat.zero_lt_succ, Nat.reduceMul, Int.reduceNeg, Bool.false_eq_true, if_true, if_false, Nat.zero_add, nlit, eq_self, decide_true, decide_false, reduceIte, Bool.or_false, Bool.false_or, Bool.true_or, Bool.or_true, Bool.and_true, Bool.true_and, Bool.and_false, Bool.false_and, Bool.not_true, Bool.not_false, List.all_cons, List.all_nil, List.any_cons, List.any_nil]) (by simp only [wp_cons, wp_nil, wx_asgi, ev_lit, ev_var, ev_gl, ev_tup, ev_lst, ev_bin, ev_neg, ev_cmp, ev_chain, ev_and, ev_or, ev_not, ev_ifx, ev_idx, ev_slc, ev_call, ev_blt, ev_isi, ev_isis, ev_mth, ev_lc, ei_val, ei_rng1, ei_rng2, ei_zip, ei_enum, wx_addL, ev_fmt, ev_fstr, ev_tupRg1, ev_tupRg2, wp_fmtS, wp_fmtI, wp_fstr, wp_tupRg, wx_reverse, wp_neg, wp_rng1, wp_rng2, evEs, ev_asg, ev_ex, ev_ret, ev_retn, ev_iff, ev_for, ev_pass, ev_brk, ev_cont, ev_nope, wp_no, evT, evAnd, evOr, evTA, evTO, evP, evC, wp_bnd, wp_ret, wp_opt, wp_see, wp_add, wp_sub, wx_mul, wx_fdiv, wx_mod, wx_addS, wx_addT, wx_idxT, wx_idxL, wx_int, wx_abs, wx_lenL, wx_lenT, wx_lenS, wx_strI, wx_tupT, wx_tupL, wx_listT, wx_listL, wx_listS, wx_slcT, wx_slcL, wx_append, wx_pop0, wx_joinL, wx_split, wx_find, wp_newL, wp_setL, then_nx, then_rt, then_bk, then_ct, fin_rt, fin_nx, asg_name, asg_tup, asgs_nil, asgs_cons, le_line, lt_line, cop_eq, cop_ne, cop_lt, cop_le, cop_gt, cop_ge, cop_in, cop_notin, cop_is0, cop_is1, cop_is2, cop_is3, cop_is4, cop_is5, eq_int, eq_bl, eq_str, tru_non, tru_bl, tru_int, tru_tup, tru_ref, tn_non, tn_bl, tn_int, tn_str, tn_tup, tn_ref, isTn, mt_append, mt_pop0, mt_pop, mt_reverse, mt_clear, mt_join, mt_split, mt_find, mt_startswith, mt_partition, wk_tup, wk_str, wk_ref,
    rdL_cons0, rdL_ro0, rdL_succ, rdM_cons0, rdM_succ, List.map_cons, List.map_nil, List.replicate_succ, List.replicate_zero, List.cons_append, List.nil_append, List.append_nil, List.append_assoc, rdL_at, rdL_at0, rdM_at, rdM_at0, set_at, set_at0, List.length_append, Nat.add_assoc, List.getElem?_cons_succ, List.getElem?_cons_zero, List.set_cons_succ, List.set_cons_zero, Nat.reduceSub, Nat.reduceAdd, Option.map_some, Option.bind_some, Option.some.injEq, exists_eq_left', exists_eq_left, exists_eq', exists_and_left, exists_const, D.int.injEq, D.ref.injEq, D.str.injEq, D.bl.injEq, D.tup.injEq, true_and, and_true, List.length_cons, List.length_nil, atI_lit, ixN_lit, Nat.reduceLT, Nat.reduceLeDiff, Nat.reduceEqDiff, Int.reduceLT, Int.reduceLE, Int.reduceEq, Nat.lt_irrefl, Nat.zero_lt_succ, Nat.reduceMul, Int.reduceNeg, Bool.false_eq_true, if_true, if_false, Nat.zero_add, nlit, eq_self, decide_true, decide_false, reduceIte, Bool.or_false, Bool.false_or, Bool.true_or, Bool.or_true, Bool.and_true, Bool.true_and, Bool.and_false, Bool.false_and, Bool.not_true, Bool.not_false, List.all_cons, List.all_nil, List.any_cons, List.any_nil]) ?_ o2]
      · by_cases hn : r < 0
        · simp [doW, hn]
        · have : dig r ≠ Str.ofString "." := fun z => by
            have h1 := tl_dig (i := r) (by omega)
            rw [z] at h1
            have h2 : TL.tl (Str.ofString ".") = [46] := by decide +kernel
            rw [h2] at h1
            injection h1 with h3
            omega
          simp [doW, if_neg hn, hn, this]
      · intro x hx
        unfold doW at hx
        split at hx
        · exact o2 x hx
        · simp only [List.mem_cons, List.not_mem_nil, or_false] at hx
          rcases hx with rfl | rfl
          · exact ok_do
          · exact strOk_dig (by omega)
    rw [eq1]
    by_cases hn : r < 0
    · have hr1 : r = -1 := by omega
      subst hr1
      simp only [wp_cons, wp_nil, wx_asgi, ev_lit, ev_var, ev_gl, ev_tup, ev_lst, ev_bin, ev_neg, ev_cmp, ev_chain, ev_and, ev_or, ev_not, ev_ifx, ev_idx, ev_slc, ev_call, ev_blt, ev_isi, ev_isis, ev_mth, ev_lc, ei_val, ei_rng1, ei_rng2, ei_zip, ei_enum, wx_addL, ev_fmt, ev_fstr, ev_tupRg1, ev_tupRg2, wp_fmtS, wp_fmtI, wp_fstr, wp_tupRg, wx_reverse, wp_neg, wp_rng1, wp_rng2, evEs, ev_asg, ev_ex, ev_ret, ev_retn, ev_iff, ev_for, ev_pass, ev_brk, ev_cont, ev_nope, wp_no, evT, evAnd, evOr, evTA, evTO, evP, evC, wp_bnd, wp_ret, wp_opt, wp_see, wp_add, wp_sub, wx_mul, wx_fdiv, wx_mod, wx_addS, wx_addT, wx_idxT, wx_idxL, wx_int, wx_abs, wx_lenL, wx_lenT, wx_lenS, wx_strI, wx_tupT, wx_tupL, wx_listT, wx_listL, wx_listS, wx_slcT, wx_slcL, wx_append, wx_pop0, wx_joinL, wx_split, wx_find, wp_newL, wp_setL, then_nx, then_rt, then_bk, then_ct, fin_rt, fin_nx, asg_name, asg_tup, asgs_nil, asgs_cons, le_line, lt_line, cop_eq, cop_ne, cop_lt, cop_le, cop_gt, cop_ge, cop_in, cop_notin, cop_is0, cop_is1, cop_is2, cop_is3, cop_is4, cop_is5, eq_int, eq_bl, eq_str, tru_non, tru_bl, tru_int, tru_tup, tru_ref, tn_non, tn_bl, tn_int, tn_str, tn_tup, tn_ref, isTn, mt_append, mt_pop0, mt_pop, mt_reverse, mt_clear, mt_join, mt_split, mt_find, mt_startswith, mt_partition, wk_tup, wk_str, wk_ref,
    rdL_cons0, rdL_ro0, rdL_succ, rdM_cons0, rdM_succ, List.map_cons, List.map_nil, List.replicate_succ, List.replicate_zero, List.cons_append, List.nil_append, List.append_nil, List.append_assoc, rdL_at, rdL_at0, rdM_at, rdM_at0, set_at, set_at0, List.length_append, Nat.add_assoc, List.getElem?_cons_succ, List.getElem?_cons_zero, List.set_cons_succ, List.set_cons_zero, Nat.reduceSub, Nat.reduceAdd, Option.map_some, Option.bind_some, Option.some.injEq, exists_eq_left', exists_eq_left, exists_eq', exists_and_left, exists_const, D.int.injEq, D.ref.injEq, D.str.injEq, D.bl.injEq, D.tup.injEq, true_and, and_true, List.length_cons, List.length_nil, atI_lit, ixN_lit, Nat.reduceLT, Nat.reduceLeDiff, Nat.reduceEqDiff, Int.reduceLT, Int.reduceLE, Int.reduceEq, Nat.lt_irrefl, Nat.zero_lt_succ, Nat.reduceMul, Int.reduceNeg, Bool.false_eq_true, if_true, if_false, Nat.zero_add, nlit, eq_self, decide_true, decide_false, reduceIte, Bool.or_false, Bool.false_or, Bool.true_or, Bool.or_true, Bool.and_true, Bool.true_and, Bool.and_false, Bool.false_and, Bool.not_true, Bool.not_false, List.all_cons, List.all_nil, List.any_cons, List.any_nil, hn]
      exact .app _
    · have ew : doW r = [Str.ofString "do", dig r] := by unfold doW; rw [if_neg hn]
      simp only [wp_cons, wp_nil, wx_asgi, ev_lit, ev_var, ev_gl, ev_tup, ev_lst, ev_bin, ev_neg, ev_cmp, ev_chain, ev_and, ev_or, ev_not, ev_ifx, ev_idx, ev_slc, ev_call, ev_blt, ev_isi, ev_isis, ev_mth, ev_lc, ei_val, ei_rng1, ei_rng2, ei_zip, ei_enum, wx_addL, ev_fmt, ev_fstr, ev_tupRg1, ev_tupRg2, wp_fmtS, wp_fmtI, wp_fstr, wp_tupRg, wx_reverse, wp_neg, wp_rng1, wp_rng2, evEs, ev_asg, ev_ex, ev_ret, ev_retn, ev_iff, ev_for, ev_pass, ev_brk, ev_cont, ev_nope, wp_no, evT, evAnd, evOr, evTA, evTO, evP, evC, wp_bnd, wp_ret, wp_opt, wp_see, wp_add, wp_sub, wx_mul, wx_fdiv, wx_mod, wx_addS, wx_addT, wx_idxT, wx_idxL, wx_int, wx_abs, wx_lenL, wx_lenT, wx_lenS, wx_strI, wx_tupT, wx_tupL, wx_listT, wx_listL, wx_listS, wx_slcT, wx_slcL, wx_append, wx_pop0, wx_joinL, wx_split, wx_find, wp_newL, wp_setL, then_nx, then_rt, then_bk, then_ct, fin_rt, fin_nx, asg_name, asg_tup, asgs_nil, asgs_cons, le_line, lt_line, cop_eq, cop_ne, cop_lt, cop_le, cop_gt, cop_ge, cop_in, cop_notin, cop_is0, cop_is1, cop_is2, cop_is3, cop_is4, cop_is5, eq_int, eq_bl, eq_str, tru_non, tru_bl, tru_int, tru_tup, tru_ref, tn_non, tn_bl, tn_int, tn_str, tn_tup, tn_ref, isTn, mt_append, mt_pop0, mt_pop, mt_reverse, mt_clear, mt_join, mt_split, mt_find, mt_startswith, mt_partition, wk_tup, wk_str, wk_ref,
    rdL_cons0, rdL_ro0, rdL_succ, rdM_cons0, rdM_succ, List.map_cons, List.map_nil, List.replicate_succ, List.replicate_zero, List.cons_append, List.nil_append, List.append_nil, List.append_assoc, rdL_at, rdL_at0, rdM_at, rdM_at0, set_at, set_at0, List.length_append, Nat.add_assoc, List.getElem?_cons_succ, List.getElem?_cons_zero, List.set_cons_succ, List.set_cons_zero, Nat.reduceSub, Nat.reduceAdd, Option.map_some, Option.bind_some, Option.some.injEq, exists_eq_left', exists_eq_left, exists_eq', exists_and_left, exists_const, D.int.injEq, D.ref.injEq, D.str.injEq, D.bl.injEq, D.tup.injEq, true_and, and_true, List.length_cons, List.length_nil, atI_lit, ixN_lit, Nat.reduceLT, Nat.reduceLeDiff, Nat.reduceEqDiff, Int.reduceLT, Int.reduceLE, Int.reduceEq, Nat.lt_irrefl, Nat.zero_lt_succ, Nat.reduceMul, Int.reduceNeg, Bool.false_eq_true, if_true, if_false, Nat.zero_add, nlit, eq_self, decide_true, decide_false, reduceIte, Bool.or_false, Bool.false_or, Bool.true_or, Bool.or_true, Bool.and_true, Bool.true_and, Bool.and_false, Bool.false_and, Bool.not_true, Bool.not_false, List.all_cons, List.all_nil, List.any_cons, List.any_nil, hn, decide_false, ew]
      have hge : decide (0 ≤ r) = true := decide_eq_true (by omega)
      refine (read_digit_ok (k := k + 2) (i := r) h.rdigit h.digits (by omega)).to fun S1 g1 => ?_
      obtain ⟨X, rfl⟩ := g1
      simp only [wp_cons, wp_nil, wx_asgi, ev_lit, ev_var, ev_gl, ev_tup, ev_lst, ev_bin, ev_neg, ev_cmp, ev_chain, ev_and, ev_or, ev_not, ev_ifx, ev_idx, ev_slc, ev_call, ev_blt, ev_isi, ev_isis, ev_mth, ev_lc, ei_val, ei_rng1, ei_rng2, ei_zip, ei_enum, wx_addL, ev_fmt, ev_fstr, ev_tupRg1, ev_tupRg2, wp_fmtS, wp_fmtI, wp_fstr, wp_tupRg, wx_reverse, wp_neg, wp_rng1, wp_rng2, evEs, ev_asg, ev_ex, ev_ret, ev_retn, ev_iff, ev_for, ev_pass, ev_brk, ev_cont, ev_nope, wp_no, evT, evAnd, evOr, evTA, evTO, evP, evC, wp_bnd, wp_ret, wp_opt, wp_see, wp_add, wp_sub, wx_mul, wx_fdiv, wx_mod, wx_addS, wx_addT, wx_idxT, wx_idxL, wx_int, wx_abs, wx_lenL, wx_lenT, wx_lenS, wx_strI, wx_tupT, wx_tupL, wx_listT, wx_listL, wx_listS, wx_slcT, wx_slcL, wx_append, wx_pop0, wx_joinL, wx_split, wx_find, wp_newL, wp_setL, then_nx, then_rt, then_bk, then_ct, fin_rt, fin_nx, asg_name, asg_tup, asgs_nil, asgs_cons, le_line, lt_line, cop_eq, cop_ne, cop_lt, cop_le, cop_gt, cop_ge, cop_in, cop_notin, cop_is0, cop_is1, cop_is2, cop_is3, cop_is4, cop_is5, eq_int, eq_bl, eq_str, tru_non, tru_bl, tru_int, tru_tup, tru_ref, tn_non, tn_bl, tn_int, tn_str, tn_tup, tn_ref, isTn, mt_append, mt_pop0, mt_pop, mt_reverse, mt_clear, mt_join, mt_split, mt_find, mt_startswith, mt_partition, wk_tup, wk_str, wk_ref,
    rdL_cons0, rdL_ro0, rdL_succ, rdM_cons0, rdM_succ, List.map_cons, List.map_nil, List.replicate_succ, List.replicate_zero, List.cons_append, List.nil_append, List.append_nil, List.append_assoc, rdL_at, rdL_at0, rdM_at, rdM_at0, set_at, set_at0, List.length_append, Nat.add_assoc, List.getElem?_cons_succ, List.getElem?_cons_zero, List.set_cons_succ, List.set_cons_zero, Nat.reduceSub, Nat.reduceAdd, Option.map_some, Option.bind_some, Option.some.injEq, exists_eq_left', exists_eq_left, exists_eq', exists_and_left, exists_const, D.int.injEq, D.ref.injEq, D.str.injEq, D.bl.injEq, D.tup.injEq, true_and, and_true, List.length_cons, List.length_nil, atI_lit, ixN_lit, Nat.reduceLT, Nat.reduceLeDiff, Nat.reduceEqDiff, Int.reduceLT, Int.reduceLE, Int.reduceEq, Nat.lt_irrefl, Nat.zero_lt_succ, Nat.reduceMul, Int.reduceNeg, Bool.false_eq_true, if_true, if_false, Nat.zero_add, nlit, eq_self, decide_true, decide_false, reduceIte, Bool.or_false, Bool.false_or, Bool.true_or, Bool.or_true, Bool.and_true, Bool.true_and, Bool.and_false, Bool.false_and, Bool.not_true, Bool.not_false, List.all_cons, List.all_nil, List.any_cons, List.any_nil, hge]
      refine (read_digit_ok (k := k + 2) (i := r) h.rdigit h.digits (by omega)).to fun S2 g2 => ?_
      obtain ⟨Y, rfl⟩ := g2
      simp only [wp_cons, wp_nil, wx_asgi, ev_lit, ev_var, ev_gl, ev_tup, ev_lst, ev_bin, ev_neg, ev_cmp, ev_chain, ev_and, ev_or, ev_not, ev_ifx, ev_idx, ev_slc, ev_call, ev_blt, ev_isi, ev_isis, ev_mth, ev_lc, ei_val, ei_rng1, ei_rng2, ei_zip, ei_enum, wx_addL, ev_fmt, ev_fstr, ev_tupRg1, ev_tupRg2, wp_fmtS, wp_fmtI, wp_fstr, wp_tupRg, wx_reverse, wp_neg, wp_rng1, wp_rng2, evEs, ev_asg, ev_ex, ev_ret, ev_retn, ev_iff, ev_for, ev_pass, ev_brk, ev_cont, ev_nope, wp_no, evT, evAnd, evOr, evTA, evTO, evP, evC, wp_bnd, wp_ret, wp_opt, wp_see, wp_add, wp_sub, wx_mul, wx_fdiv, wx_mod, wx_addS, wx_addT, wx_idxT, wx_idxL, wx_int, wx_abs, wx_lenL, wx_lenT, wx_lenS, wx_strI, wx_tupT, wx_tupL, wx_listT, wx_listL, wx_listS, wx_slcT, wx_slcL, wx_append, wx_pop0, wx_joinL, wx_split, wx_find, wp_newL, wp_setL, then_nx, then_rt, then_bk, then_ct, fin_rt, fin_nx, asg_name, asg_tup, asgs_nil, asgs_cons, le_line, lt_line, cop_eq, cop_ne, cop_lt, cop_le, cop_gt, cop_ge, cop_in, cop_notin, cop_is0, cop_is1, cop_is2, cop_is3, cop_is4, cop_is5, eq_int, eq_bl, eq_str, tru_non, tru_bl, tru_int, tru_tup, tru_ref, tn_non, tn_bl, tn_int, tn_str, tn_tup, tn_ref, isTn, mt_append, mt_pop0, mt_pop, mt_reverse, mt_clear, mt_join, mt_split, mt_find, mt_startswith, mt_partition, wk_tup, wk_str, wk_ref,
    rdL_cons0, rdL_ro0, rdL_succ, rdM_cons0, rdM_succ, List.map_cons, List.map_nil, List.replicate_succ, List.replicate_zero, List.cons_append, List.nil_append, List.append_nil, List.append_assoc, rdL_at, rdL_at0, rdM_at, rdM_at0, set_at, set_at0, List.length_append, Nat.add_assoc, List.getElem?_cons_succ, List.getElem?_cons_zero, List.set_cons_succ, List.set_cons_zero, Nat.reduceSub, Nat.reduceAdd, Option.map_some, Option.bind_some, Option.some.injEq, exists_eq_left', exists_eq_left, exists_eq', exists_and_left, exists_const, D.int.injEq, D.ref.injEq, D.str.injEq, D.bl.injEq, D.tup.injEq, true_and, and_true, List.length_cons, List.length_nil, atI_lit, ixN_lit, Nat.reduceLT, Nat.reduceLeDiff, Nat.reduceEqDiff, Int.reduceLT, Int.reduceLE, Int.reduceEq, Nat.lt_irrefl, Nat.zero_lt_succ, Nat.reduceMul, Int.reduceNeg, Bool.false_eq_true, if_true, if_false, Nat.zero_add, nlit, eq_self, decide_true, decide_false, reduceIte, Bool.or_false, Bool.false_or, Bool.true_or, Bool.or_true, Bool.and_true, Bool.true_and, Bool.and_false, Bool.false_and, Bool.not_true, Bool.not_false, List.all_cons, List.all_nil, List.any_cons, List.any_nil]
      exact .app _
  | send l os =>
    obtain ⟨h1, h2, h3⟩ := ok
    simp only [Sg.t, Sg.d, split_send h1 h2.sm10]
    have eq1 : eqF (S ++ [Ob.lst ((sendW l os).map D.str), Ob.lst [D.str (Str.ofString "do"), D.str (Str.ofString ".")]]) (.ref S.length) (.ref (S.length + 1)) = some false := by
      rw [eq_refS (xs := sendW l os) (ys := [Str.ofString "do", Str.ofString "."]) (by simp only [wp_cons, wp_nil, wx_asgi, ev_lit, ev_var, ev_gl, ev_tup, ev_lst, ev_bin, ev_neg, ev_cmp, ev_chain, ev_and, ev_or, ev_not, ev_ifx, ev_idx, ev_slc, ev_call, ev_blt, ev_isi, ev_isis, ev_mth, ev_lc, ei_val, ei_rng1, ei_rng2, ei_zip, ei_enum, wx_addL, ev_fmt, ev_fstr, ev_tupRg1, ev_tupRg2, wp_fmtS, wp_fmtI, wp_fstr, wp_tupRg, wx_reverse, wp_neg, wp_rng1, wp_rng2, evEs, ev_asg, ev_ex, ev_ret, ev_retn, ev_iff, ev_for, ev_pass, ev_brk, ev_cont, ev_nope, wp_no, evT, evAnd, evOr, evTA, evTO, evP, evC, wp_bnd, wp_ret, wp_opt, wp_see, wp_add, wp_sub, wx_mul, wx_fdiv, wx_mod, wx_addS, wx_addT, wx_idxT, wx_idxL, wx_int, wx_abs, wx_lenL, wx_lenT, wx_lenS, wx_strI, wx_tupT, wx_tupL, wx_listT, wx_listL, wx_listS, wx_slcT, wx_slcL, wx_append, wx_pop0, wx_joinL, wx_split, wx_find, wp_newL, wp_setL, then_nx, then_rt, then_bk, then_ct, fin_rt, fin_nx, asg_name, asg_tup, asgs_nil, asgs_cons, le_line, lt_line, cop_eq, cop_ne, cop_lt, cop_le, cop_gt, cop_ge, cop_in, cop_notin, cop_is0, cop_is1, cop_is2, cop_is3, cop_is4, cop_is5, eq_int, eq_bl, eq_str, tru_non, tru_bl, tru_int, tru_tup, tru_ref, tn_non, tn_bl, tn_int, tn_str, tn_tup, tn_ref, isTn, mt_append, mt_pop0, mt_pop, mt_reverse, mt_clear, mt_join, mt_split, mt_find, mt_startswith, mt_partition, wk_tup, wk_str, wk_ref,
    rdL_cons0, rdL_ro0, rdL_succ, rdM_cons0, rdM_succ, List.map_cons, List.map_nil, List.replicate_succ, List.replicate_zero, List.cons_append, List.nil_append, List.append_nil, List.append_assoc, rdL_at, rdL_at0, rdM_at, rdM_at0, set_at, set_at0, List.length_append, Nat.add_assoc, List.getElem?_cons_succ, List.getElem?_cons_zero, List.set_cons_succ, List.set_cons_zero, Nat.reduceSub, Nat.reduceAdd, Option.map_some, Option.bind_some, Option.some.injEq, exists_eq_left', exists_eq_left, exists_eq', exists_and_left, exists_const, D.int.injEq, D.ref.injEq, D.str.injEq, D.bl.injEq, D.tup.injEq, true_and, and_true, List.length_cons, List.length_nil, atI_lit, ixN_lit, Nat.reduceLT, Nat.reduceLeDiff, Nat.reduceEqDiff, Int.reduceLT, Int.reduceLE, Int.reduceEq, Nat.lt_irrefl, Nat.zero_lt_succ, Nat.reduceMul, Int.reduceNeg, Bool.false_eq_true, if_true, if_false, Nat.zero_add, nlit, eq_self, decide_true, decide_false, reduceIte, Bool.or_false, Bool.false_or, Bool.true_or, Bool.or_true, Bool.and_true, Bool.true_and, Bool.and_false, Bool.false_and, Bool.not_true, Bool.not_false, List.all_cons, List.all_nil, List.any_cons, List.any_nil]) (by simp only [wp_cons, wp_nil, wx_asgi, ev_lit, ev_var, ev_gl, ev_tup, ev_lst, ev_bin, ev_neg, ev_cmp, ev_chain, ev_and, ev_or, ev_not, ev_ifx, ev_idx, ev_slc, ev_call, ev_blt, ev_isi, ev_isis, ev_mth, ev_lc, ei_val, ei_rng1, ei_rng2, ei_zip, ei_enum, wx_addL, ev_fmt, ev_fstr, ev_tupRg1, ev_tupRg2, wp_fmtS, wp_fmtI, wp_fstr, wp_tupRg, wx_reverse, wp_neg, wp_rng1, wp_rng2, evEs, ev_asg, ev_ex, ev_ret, ev_retn, ev_iff, ev_for, ev_pass, ev_brk, ev_cont, ev_nope, wp_no, evT, evAnd, evOr, evTA, evTO, evP, evC, wp_bnd, wp_ret, wp_opt, wp_see, wp_add, wp_sub, wx_mul, wx_fdiv, wx_mod, wx_addS, wx_addT, wx_idxT, wx_idxL, wx_int, wx_abs, wx_lenL, wx_lenT, wx_lenS, wx_strI, wx_tupT, wx_tupL, wx_listT, wx_listL, wx_listS, wx_slcT, wx_slcL, wx_append, wx_pop0, wx_joinL, wx_split, wx_find, wp_newL, wp_setL, then_nx, then_rt, then_bk, then_ct, fin_rt, fin_nx, asg_name, asg_tup, asgs_nil, asgs_cons, le_line, lt_line, cop_eq, cop_ne, cop_lt, cop_le, cop_gt, cop_ge, cop_in, cop_notin, cop_is0, cop_is1, cop_is2, cop_is3, cop_is4, cop_is5, eq_int, eq_bl, eq_str, tru_non, tru_bl, tru_int, tru_tup, tru_ref, tn_non, tn_bl, tn_int, tn_str, tn_tup, tn_ref, isTn, mt_append, mt_pop0, mt_pop, mt_reverse, mt_clear, mt_join, mt_split, mt_find, mt_startswith, mt_partition, wk_tup, wk_str, wk_ref,
    rdL_cons0, rdL_ro0, rdL_succ, rdM_cons0, rdM_succ, List.map_cons, List.map_nil, List.replicate_succ, List.replicate_zero, List.cons_append, List.nil_append, List.append_nil, List.append_assoc, rdL_at, rdL_at0, rdM_at, rdM_at0, set_at, set_at0, List.length_append, Nat.add_assoc, List.getElem?_cons_succ, List.getElem?_cons_zero, List.set_cons_succ, List.set_cons_zero, Nat.reduceSub, Nat.reduceAdd, Option.map_some, Option.bind_some, Option.some.injEq, exists_eq_left', exists_eq_left, exists_eq', exists_and_left, exists_const, D.int.injEq, D.ref.injEq, D.str.injEq, D.bl.injEq, D.tup.injEq, true_and, and_true, List.length_cons, List.length_nil, atI_lit, ixN_lit, Nat.reduceLT, Nat.reduceLeDiff, Nat.reduceEqDiff, Int.reduceLT, Int.reduceLE, Int.reduceEq, Nat.lt_irrefl, Nat.zero_lt_succ, Nat.reduceMul, Int.reduceNeg, Bool.false_eq_true, if_true, if_false, Nat.zero_add, nlit, eq_self, decide_true, decide_false, reduceIte, Bool.or_false, Bool.false_or, Bool.true_or, Bool.or_true, Bool.and_true, Bool.true_and, Bool.and_false, Bool.false_and, Bool.not_true, Bool.not_false, List.all_cons, List.all_nil, List.any_cons, List.any_nil]) ?_ o2]
      · simp [sendW]
      · intro x hx
        simp only [sendW, List.mem_cons, List.not_mem_nil, or_false] at hx
        rcases hx with rfl | rfl | rfl
        · exact ok_send
        · exact strOk_dig (by omega)
        · exact strOk_glued h2.sm10
    rw [eq1]
    have e3 : decide ((3 : Int) = 2) = false := by decide
    have hge : decide (l < 0) = false := decide_eq_false (by omega)
    simp only [wp_cons, wp_nil, wx_asgi, ev_lit, ev_var, ev_gl, ev_tup, ev_lst, ev_bin, ev_neg, ev_cmp, ev_chain, ev_and, ev_or, ev_not, ev_ifx, ev_idx, ev_slc, ev_call, ev_blt, ev_isi, ev_isis, ev_mth, ev_lc, ei_val, ei_rng1, ei_rng2, ei_zip, ei_enum, wx_addL, ev_fmt, ev_fstr, ev_tupRg1, ev_tupRg2, wp_fmtS, wp_fmtI, wp_fstr, wp_tupRg, wx_reverse, wp_neg, wp_rng1, wp_rng2, evEs, ev_asg, ev_ex, ev_ret, ev_retn, ev_iff, ev_for, ev_pass, ev_brk, ev_cont, ev_nope, wp_no, evT, evAnd, evOr, evTA, evTO, evP, evC, wp_bnd, wp_ret, wp_opt, wp_see, wp_add, wp_sub, wx_mul, wx_fdiv, wx_mod, wx_addS, wx_addT, wx_idxT, wx_idxL, wx_int, wx_abs, wx_lenL, wx_lenT, wx_lenS, wx_strI, wx_tupT, wx_tupL, wx_listT, wx_listL, wx_listS, wx_slcT, wx_slcL, wx_append, wx_pop0, wx_joinL, wx_split, wx_find, wp_newL, wp_setL, then_nx, then_rt, then_bk, then_ct, fin_rt, fin_nx, asg_name, asg_tup, asgs_nil, asgs_cons, le_line, lt_line, cop_eq, cop_ne, cop_lt, cop_le, cop_gt, cop_ge, cop_in, cop_notin, cop_is0, cop_is1, cop_is2, cop_is3, cop_is4, cop_is5, eq_int, eq_bl, eq_str, tru_non, tru_bl, tru_int, tru_tup, tru_ref, tn_non, tn_bl, tn_int, tn_str, tn_tup, tn_ref, isTn, mt_append, mt_pop0, mt_pop, mt_reverse, mt_clear, mt_join, mt_split, mt_find, mt_startswith, mt_partition, wk_tup, wk_str, wk_ref,
    rdL_cons0, rdL_ro0, rdL_succ, rdM_cons0, rdM_succ, List.map_cons, List.map_nil, List.replicate_succ, List.replicate_zero, List.cons_append, List.nil_append, List.append_nil, List.append_assoc, rdL_at, rdL_at0, rdM_at, rdM_at0, set_at, set_at0, List.length_append, Nat.add_assoc, List.getElem?_cons_succ, List.getElem?_cons_zero, List.set_cons_succ, List.set_cons_zero, Nat.reduceSub, Nat.reduceAdd, Option.map_some, Option.bind_some, Option.some.injEq, exists_eq_left', exists_eq_left, exists_eq', exists_and_left, exists_const, D.int.injEq, D.ref.injEq, D.str.injEq, D.bl.injEq, D.tup.injEq, true_and, and_true, List.length_cons, List.length_nil, atI_lit, ixN_lit, Nat.reduceLT, Nat.reduceLeDiff, Nat.reduceEqDiff, Int.reduceLT, Int.reduceLE, Int.reduceEq, Nat.lt_irrefl, Nat.zero_lt_succ, Nat.reduceMul, Int.reduceNeg, Bool.false_eq_true, if_true, if_false, Nat.zero_add, nlit, eq_self, decide_true, decide_false, reduceIte, Bool.or_false, Bool.false_or, Bool.true_or, Bool.or_true, Bool.and_true, Bool.true_and, Bool.and_false, Bool.false_and, Bool.not_true, Bool.not_false, List.all_cons, List.all_nil, List.any_cons, List.any_nil, sendW, e3]
    refine (read_digit_ok (k := k + 2) (i := l) h.rdigit h.digits (by omega)).to fun S1 g1 => ?_
    obtain ⟨X, rfl⟩ := g1
    simp only [wp_cons, wp_nil, wx_asgi, ev_lit, ev_var, ev_gl, ev_tup, ev_lst, ev_bin, ev_neg, ev_cmp, ev_chain, ev_and, ev_or, ev_not, ev_ifx, ev_idx, ev_slc, ev_call, ev_blt, ev_isi, ev_isis, ev_mth, ev_lc, ei_val, ei_rng1, ei_rng2, ei_zip, ei_enum, wx_addL, ev_fmt, ev_fstr, ev_tupRg1, ev_tupRg2, wp_fmtS, wp_fmtI, wp_fstr, wp_tupRg, wx_reverse, wp_neg, wp_rng1, wp_rng2, evEs, ev_asg, ev_ex, ev_ret, ev_retn, ev_iff, ev_for, ev_pass, ev_brk, ev_cont, ev_nope, wp_no, evT, evAnd, evOr, evTA, evTO, evP, evC, wp_bnd, wp_ret, wp_opt, wp_see, wp_add, wp_sub, wx_mul, wx_fdiv, wx_mod, wx_addS, wx_addT, wx_idxT, wx_idxL, wx_int, wx_abs, wx_lenL, wx_lenT, wx_lenS, wx_strI, wx_tupT, wx_tupL, wx_listT, wx_listL, wx_listS, wx_slcT, wx_slcL, wx_append, wx_pop0, wx_joinL, wx_split, wx_find, wp_newL, wp_setL, then_nx, then_rt, then_bk, then_ct, fin_rt, fin_nx, asg_name, asg_tup, asgs_nil, asgs_cons, le_line, lt_line, cop_eq, cop_ne, cop_lt, cop_le, cop_gt, cop_ge, cop_in, cop_notin, cop_is0, cop_is1, cop_is2, cop_is3, cop_is4, cop_is5, eq_int, eq_bl, eq_str, tru_non, tru_bl, tru_int, tru_tup, tru_ref, tn_non, tn_bl, tn_int, tn_str, tn_tup, tn_ref, isTn, mt_append, mt_pop0, mt_pop, mt_reverse, mt_clear, mt_join, mt_split, mt_find, mt_startswith, mt_partition, wk_tup, wk_str, wk_ref,
    rdL_cons0, rdL_ro0, rdL_succ, rdM_cons0, rdM_succ, List.map_cons, List.map_nil, List.replicate_succ, List.replicate_zero, List.cons_append, List.nil_append, List.append_nil, List.append_assoc, rdL_at, rdL_at0, rdM_at, rdM_at0, set_at, set_at0, List.length_append, Nat.add_assoc, List.getElem?_cons_succ, List.getElem?_cons_zero, List.set_cons_succ, List.set_cons_zero, Nat.reduceSub, Nat.reduceAdd, Option.map_some, Option.bind_some, Option.some.injEq, exists_eq_left', exists_eq_left, exists_eq', exists_and_left, exists_const, D.int.injEq, D.ref.injEq, D.str.injEq, D.bl.injEq, D.tup.injEq, true_and, and_true, List.length_cons, List.length_nil, atI_lit, ixN_lit, Nat.reduceLT, Nat.reduceLeDiff, Nat.reduceEqDiff, Int.reduceLT, Int.reduceLE, Int.reduceEq, Nat.lt_irrefl, Nat.zero_lt_succ, Nat.reduceMul, Int.reduceNeg, Bool.false_eq_true, if_true, if_false, Nat.zero_add, nlit, eq_self, decide_true, decide_false, reduceIte, Bool.or_false, Bool.false_or, Bool.true_or, Bool.or_true, Bool.and_true, Bool.true_and, Bool.and_false, Bool.false_and, Bool.not_true, Bool.not_false, List.all_cons, List.all_nil, List.any_cons, List.any_nil, hge]
    refine ⟨?_, ?_⟩
    · have e1 : (glued os).cps.size = (glued os).length := rfl
      have := glued_len h2.sm10
      have := h2.len
      rw [e1]; exact line1000 (by omega)
    · rw [signs_glued h2.sm10]
      refine (read_digits_ok (k := k) (xs := os) h.rdigits h.rdigit h.asc h.integer h.digits h2 ?_).to fun S2 g2 => ?_
      · rw [show S ++ (Ob.lst [D.str (Str.ofString "send"), D.str (dig l), D.str (glued os)] :: Ob.lst [D.str (Str.ofString "do"), D.str (Str.ofString ".")] :: (X ++ [Ob.lst ((os.map dig).map D.str)])) = (S ++ (Ob.lst [D.str (Str.ofString "send"), D.str (dig l), D.str (glued os)] :: Ob.lst [D.str (Str.ofString "do"), D.str (Str.ofString ".")] :: X)) ++ [Ob.lst ((os.map dig).map D.str)] from by simp,
          show S.length + (X.length + 2) = (S ++ (Ob.lst [D.str (Str.ofString "send"), D.str (dig l), D.str (glued os)] :: Ob.lst [D.str (Str.ofString "do"), D.str (Str.ofString ".")] :: X)).length from by simp]
        exact rdL_new
      · obtain ⟨Y, rfl⟩ := g2
        have ei : ∀ S', copF .isN (tupI os) .non S' = some false := fun _ => rfl
        simp only [wp_cons, wp_nil, wx_asgi, ev_lit, ev_var, ev_gl, ev_tup, ev_lst, ev_bin, ev_neg, ev_cmp, ev_chain, ev_and, ev_or, ev_not, ev_ifx, ev_idx, ev_slc, ev_call, ev_blt, ev_isi, ev_isis, ev_mth, ev_lc, ei_val, ei_rng1, ei_rng2, ei_zip, ei_enum, wx_addL, ev_fmt, ev_fstr, ev_tupRg1, ev_tupRg2, wp_fmtS, wp_fmtI, wp_fstr, wp_tupRg, wx_reverse, wp_neg, wp_rng1, wp_rng2, evEs, ev_asg, ev_ex, ev_ret, ev_retn, ev_iff, ev_for, ev_pass, ev_brk, ev_cont, ev_nope, wp_no, evT, evAnd, evOr, evTA, evTO, evP, evC, wp_bnd, wp_ret, wp_opt, wp_see, wp_add, wp_sub, wx_mul, wx_fdiv, wx_mod, wx_addS, wx_addT, wx_idxT, wx_idxL, wx_int, wx_abs, wx_lenL, wx_lenT, wx_lenS, wx_strI, wx_tupT, wx_tupL, wx_listT, wx_listL, wx_listS, wx_slcT, wx_slcL, wx_append, wx_pop0, wx_joinL, wx_split, wx_find, wp_newL, wp_setL, then_nx, then_rt, then_bk, then_ct, fin_rt, fin_nx, asg_name, asg_tup, asgs_nil, asgs_cons, le_line, lt_line, cop_eq, cop_ne, cop_lt, cop_le, cop_gt, cop_ge, cop_in, cop_notin, cop_is0, cop_is1, cop_is2, cop_is3, cop_is4, cop_is5, eq_int, eq_bl, eq_str, tru_non, tru_bl, tru_int, tru_tup, tru_ref, tn_non, tn_bl, tn_int, tn_str, tn_tup, tn_ref, isTn, mt_append, mt_pop0, mt_pop, mt_reverse, mt_clear, mt_join, mt_split, mt_find, mt_startswith, mt_partition, wk_tup, wk_str, wk_ref,
    rdL_cons0, rdL_ro0, rdL_succ, rdM_cons0, rdM_succ, List.map_cons, List.map_nil, List.replicate_succ, List.replicate_zero, List.cons_append, List.nil_append, List.append_nil, List.append_assoc, rdL_at, rdL_at0, rdM_at, rdM_at0, set_at, set_at0, List.length_append, Nat.add_assoc, List.getElem?_cons_succ, List.getElem?_cons_zero, List.set_cons_succ, List.set_cons_zero, Nat.reduceSub, Nat.reduceAdd, Option.map_some, Option.bind_some, Option.some.injEq, exists_eq_left', exists_eq_left, exists_eq', exists_and_left, exists_const, D.int.injEq, D.ref.injEq, D.str.injEq, D.bl.injEq, D.tup.injEq, true_and, and_true, List.length_cons, List.length_nil, atI_lit, ixN_lit, Nat.reduceLT, Nat.reduceLeDiff, Nat.reduceEqDiff, Int.reduceLT, Int.reduceLE, Int.reduceEq, Nat.lt_irrefl, Nat.zero_lt_succ, Nat.reduceMul, Int.reduceNeg, Bool.false_eq_true, if_true, if_false, Nat.zero_add, nlit, eq_self, decide_true, decide_false, reduceIte, Bool.or_false, Bool.false_or, Bool.true_or, Bool.or_true, Bool.and_true, Bool.true_and, Bool.and_false, Bool.false_and, Bool.not_true, Bool.not_false, List.all_cons, List.all_nil, List.any_cons, List.any_nil, ei, eq_tupI_nil h3]
        refine (read_digit_ok (k := k + 2) (i := l) h.rdigit h.digits (by omega)).to fun S3 g3 => ?_
        obtain ⟨Z, rfl⟩ := g3
        simp only [wp_cons, wp_nil, wx_asgi, ev_lit, ev_var, ev_gl, ev_tup, ev_lst, ev_bin, ev_neg, ev_cmp, ev_chain, ev_and, ev_or, ev_not, ev_ifx, ev_idx, ev_slc, ev_call, ev_blt, ev_isi, ev_isis, ev_mth, ev_lc, ei_val, ei_rng1, ei_rng2, ei_zip, ei_enum, wx_addL, ev_fmt, ev_fstr, ev_tupRg1, ev_tupRg2, wp_fmtS, wp_fmtI, wp_fstr, wp_tupRg, wx_reverse, wp_neg, wp_rng1, wp_rng2, evEs, ev_asg, ev_ex, ev_ret, ev_retn, ev_iff, ev_for, ev_pass, ev_brk, ev_cont, ev_nope, wp_no, evT, evAnd, evOr, evTA, evTO, evP, evC, wp_bnd, wp_ret, wp_opt, wp_see, wp_add, wp_sub, wx_mul, wx_fdiv, wx_mod, wx_addS, wx_addT, wx_idxT, wx_idxL, wx_int, wx_abs, wx_lenL, wx_lenT, wx_lenS, wx_strI, wx_tupT, wx_tupL, wx_listT, wx_listL, wx_listS, wx_slcT, wx_slcL, wx_append, wx_pop0, wx_joinL, wx_split, wx_find, wp_newL, wp_setL, then_nx, then_rt, then_bk, then_ct, fin_rt, fin_nx, asg_name, asg_tup, asgs_nil, asgs_cons, le_line, lt_line, cop_eq, cop_ne, cop_lt, cop_le, cop_gt, cop_ge, cop_in, cop_notin, cop_is0, cop_is1, cop_is2, cop_is3, cop_is4, cop_is5, eq_int, eq_bl, eq_str, tru_non, tru_bl, tru_int, tru_tup, tru_ref, tn_non, tn_bl, tn_int, tn_str, tn_tup, tn_ref, isTn, mt_append, mt_pop0, mt_pop, mt_reverse, mt_clear, mt_join, mt_split, mt_find, mt_startswith, mt_partition, wk_tup, wk_str, wk_ref,
    rdL_cons0, rdL_ro0, rdL_succ, rdM_cons0, rdM_succ, List.map_cons, List.map_nil, List.replicate_succ, List.replicate_zero, List.cons_append, List.nil_append, List.append_nil, List.append_assoc, rdL_at, rdL_at0, rdM_at, rdM_at0, set_at, set_at0, List.length_append, Nat.add_assoc, List.getElem?_cons_succ, List.getElem?_cons_zero, List.set_cons_succ, List.set_cons_zero, Nat.reduceSub, Nat.reduceAdd, Option.map_some, Option.bind_some, Option.some.injEq, exists_eq_left', exists_eq_left, exists_eq', exists_and_left, exists_const, D.int.injEq, D.ref.injEq, D.str.injEq, D.bl.injEq, D.tup.injEq, true_and, and_true, List.length_cons, List.length_nil, atI_lit, ixN_lit, Nat.reduceLT, Nat.reduceLeDiff, Nat.reduceEqDiff, Int.reduceLT, Int.reduceLE, Int.reduceEq, Nat.lt_irrefl, Nat.zero_lt_succ, Nat.reduceMul, Int.reduceNeg, Bool.false_eq_true, if_true, if_false, Nat.zero_add, nlit, eq_self, decide_true, decide_false, reduceIte, Bool.or_false, Bool.false_or, Bool.true_or, Bool.or_true, Bool.and_true, Bool.true_and, Bool.and_false, Bool.false_and, Bool.not_true, Bool.not_false, List.all_cons, List.all_nil, List.any_cons, List.any_nil]
        exact .app _
end
end My

/-! Runs. -/
namespace My
open PySem PySem.Spec PyProof.Rows L2
def runT (ss : List Sg) : Str := Str.join "; " (ss.map Sg.t)
def AllOk (ss : List Sg) : Prop := ∀ s ∈ ss, s.Ok
theorem len_sep : (Str.ofString "; ").length = 2 := by decide +kernel
theorem tl_sep : TL.tl ("; " : Str) = [59, 32] := by decide +kernel
theorem run_sum {ss : List Sg} (h : AllOk ss) : ((ss.map Sg.t).map (·.length)).sum ≤ ss.length * 17 := by
  have := sum_le (b := 17) (l := (ss.map Sg.t).map (·.length)) fun x hx => by
    rw [List.map_map] at hx
    obtain ⟨s, hs, rfl⟩ := List.mem_map.mp hx
    exact t_len (h s hs)
  simpa using this
theorem run_join {ss : List Sg} (h : AllOk ss) (hl : ss.length ≤ 1000) : ((ss.map Sg.t).map (·.length)).sum + (ss.map Sg.t).length * (Str.ofString "; ").length ≤ 16777216 := by
  have := run_sum h
  rw [List.length_map, len_sep]
  omega
theorem run_len {ss : List Sg} (h : AllOk ss) (hl : ss.length ≤ 1000) : (runT ss).length ≤ 19000 := by
  have h1 := join_len_le "; " (ss.map Sg.t)
  have h2 := run_sum h
  rw [len_sep, List.length_map] at h1
  unfold runT
  omega
theorem no59 {s : Sg} (h : s.Ok) : 59 ∉ TL.tl s.t := by
  cases s with
  | go r =>
    have h : -1 ≤ r ∧ r ≤ 9 := h
    by_cases hr : r < 0
    · show 59 ∉ TL.tl (doT r)
      rw [doT_neg hr, tl_dod]; decide
    · show 59 ∉ TL.tl (doT r)
      rw [tl_doT (by omega)]; simp; omega
  | send l os =>
    obtain ⟨h1, h2, h3⟩ := h
    show 59 ∉ TL.tl (sendT l os)
    rw [tl_sendT h1 h2.sm10]
    have h10 := h2.2
    simp only [List.mem_append, List.mem_cons, List.not_mem_nil, or_false, List.mem_map, not_or, not_exists, not_and]
    refine ⟨⟨by decide, by decide, by decide, by decide, by decide, by omega, by decide⟩, fun i hi => ?_⟩
    have := h10 i hi
    omega
theorem t_head {s : Sg} (h : s.Ok) : TL.tl s.t ≠ [] := by
  cases s with
  | go r =>
    have h : -1 ≤ r ∧ r ≤ 9 := h
    by_cases hr : r < 0
    · show TL.tl (doT r) ≠ []
      rw [doT_neg hr, tl_dod]; decide
    · show TL.tl (doT r) ≠ []
      rw [tl_doT (by omega)]; simp
  | send l os =>
    obtain ⟨h1, h2, h3⟩ := h
    show TL.tl (sendT l os) ≠ []
    rw [tl_sendT h1 h2.sm10]; simp
theorem split_run {ss : List Sg} (h : AllOk ss) (hne : ss ≠ []) : Txt.split (runT ss) "; " = ss.map Sg.t := by
  unfold runT
  rw [← TL.join_eq]
  exact TL.split_join (s := 59) (S := [32]) tl_sep (by decide +kernel) (by simpa using hne) fun p hp => by
    obtain ⟨s, hs, rfl⟩ := List.mem_map.mp hp
    exact no59 (h s hs)
theorem run_ne {ss : List Sg} (h : AllOk ss) (hne : ss ≠ []) : decide (runT ss = Str.ofString "") = false := by
  refine decide_eq_false fun e => ?_
  have h1 : TL.tl (runT ss) = [] := by rw [e]; decide +kernel
  unfold runT at h1
  rw [TL.tl_join] at h1
  cases ss with
  | nil => exact hne rfl
  | cons s ss =>
    simp only [List.map_cons] at h1
    exact joinL_ne (t_head (h s List.mem_cons_self)) h1
section
variable {ds : List Df} {con : Str → Option D} {fuel k : Nat} {S : Store}
/-- [f(x) for x in a list] -/
theorem comp_call {α : Type} {n : Nat} {ss : List α} {F G : α → D} {f : Str} {nm : Str} {ρ : Env} {v : Nat} {Q : D → Store → Prop} (hv : v < ρ.length) (hr : rdL S n = some (ss.map F)) (hl : ss.length ≤ sizeLine) (h : ∀ x ∈ ss, ∀ S, Pu (callD ds con fuel k f [F x]) S (G x))
    (q : ∀ S1, Gr S S1 → Q (.ref S1.length) (S1 ++ [.lst (ss.map G)])) : Wp (compF (wkList n (ss.map F).length) (itemF ⟨callD ds con fuel k, con, fuel⟩ (.call f (.cons (.var v) .nil)) (.name v) .nil [(nm, v)] ρ) (wkList n (ss.map F).length).n 0 []) S Q := by
  refine comp_map hr hl (fun x hx S1 => ?_) q
  have ev : ((ρ.set v none).set v (some (F x)))[v]? = some (some (F x)) := by
    rw [List.getElem?_set_self (by simpa using hv)]
  rw [wx_itemF]
  simp only [wp_cons, wp_nil, wx_asgi, ev_lit, ev_var, ev_gl, ev_tup, ev_lst, ev_bin, ev_neg, ev_cmp, ev_chain, ev_and, ev_or, ev_not, ev_ifx, ev_idx, ev_slc, ev_call, ev_blt, ev_isi, ev_isis, ev_mth, ev_lc, ei_val, ei_rng1, ei_rng2, ei_zip, ei_enum, wx_addL, ev_fmt, ev_fstr, ev_tupRg1, ev_tupRg2, wp_fmtS, wp_fmtI, wp_fstr, wp_tupRg, wx_reverse, wp_neg, wp_rng1, wp_rng2, evEs, ev_asg, ev_ex, ev_ret, ev_retn, ev_iff, ev_for, ev_pass, ev_brk, ev_cont, ev_nope, wp_no, evT, evAnd, evOr, evTA, evTO, evP, evC, wp_bnd, wp_ret, wp_opt, wp_see, wp_add, wp_sub, wx_mul, wx_fdiv, wx_mod, wx_addS, wx_addT, wx_idxT, wx_idxL, wx_int, wx_abs, wx_lenL, wx_lenT, wx_lenS, wx_strI, wx_tupT, wx_tupL, wx_listT, wx_listL, wx_listS, wx_slcT, wx_slcL, wx_append, wx_pop0, wx_joinL, wx_split, wx_find, wp_newL, wp_setL, then_nx, then_rt, then_bk, then_ct, fin_rt, fin_nx, asg_name, asg_tup, asgs_nil, asgs_cons, le_line, lt_line, cop_eq, cop_ne, cop_lt, cop_le, cop_gt, cop_ge, cop_in, cop_notin, cop_is0, cop_is1, cop_is2, cop_is3, cop_is4, cop_is5, eq_int, eq_bl, eq_str, tru_non, tru_bl, tru_int, tru_tup, tru_ref, tn_non, tn_bl, tn_int, tn_str, tn_tup, tn_ref, isTn, mt_append, mt_pop0, mt_pop, mt_reverse, mt_clear, mt_join, mt_split, mt_find, mt_startswith, mt_partition, wk_tup, wk_str, wk_ref,
    rdL_cons0, rdL_ro0, rdL_succ, rdM_cons0, rdM_succ, List.map_cons, List.map_nil, List.replicate_succ, List.replicate_zero, List.cons_append, List.nil_append, List.append_nil, List.append_assoc, rdL_at, rdL_at0, rdM_at, rdM_at0, set_at, set_at0, List.length_append, Nat.add_assoc, List.getElem?_cons_succ, List.getElem?_cons_zero, List.set_cons_succ, List.set_cons_zero, Nat.reduceSub, Nat.reduceAdd, Option.map_some, Option.bind_some, Option.some.injEq, exists_eq_left', exists_eq_left, exists_eq', exists_and_left, exists_const, D.int.injEq, D.ref.injEq, D.str.injEq, D.bl.injEq, D.tup.injEq, true_and, and_true, List.length_cons, List.length_nil, atI_lit, ixN_lit, Nat.reduceLT, Nat.reduceLeDiff, Nat.reduceEqDiff, Int.reduceLT, Int.reduceLE, Int.reduceEq, Nat.lt_irrefl, Nat.zero_lt_succ, Nat.reduceMul, Int.reduceNeg, Bool.false_eq_true, if_true, if_false, Nat.zero_add, nlit, eq_self, decide_true, decide_false, reduceIte, Bool.or_false, Bool.false_or, Bool.true_or, Bool.or_true, Bool.and_true, Bool.true_and, Bool.and_false, Bool.false_and, Bool.not_true, Bool.not_false, List.all_cons, List.all_nil, List.any_cons, List.any_nil, wipeD, ev]
  refine ⟨fun _ => ?_, fun z => by cases z⟩
  exact (h x hx S1).to fun S2 g2 => ⟨rfl, g2⟩
theorem map_str (ss : List Sg) : ss.map (fun s => D.str s.t) = (ss.map Sg.t).map .str := by rw [List.map_map]; rfl
theorem show_run_ok (h : FT ds con) {n : Nat} {ss : List Sg} (ok : AllOk ss) (hl : ss.length ≤ 1000) (hr : rdL S n = some (ss.map Sg.d)) : Pu (callD ds con fuel (k + 3) "show_run" [.ref n]) S (.str (runT ss)) := by
  refine pu_call h.srun rfl rfl ?_
  simp only [Lib.df_show_run, Lib.b_show_run]
  simp only [wp_cons, wp_nil, wx_asgi, ev_lit, ev_var, ev_gl, ev_tup, ev_lst, ev_bin, ev_neg, ev_cmp, ev_chain, ev_and, ev_or, ev_not, ev_ifx, ev_idx, ev_slc, ev_call, ev_blt, ev_isi, ev_isis, ev_mth, ev_lc, ei_val, ei_rng1, ei_rng2, ei_zip, ei_enum, wx_addL, ev_fmt, ev_fstr, ev_tupRg1, ev_tupRg2, wp_fmtS, wp_fmtI, wp_fstr, wp_tupRg, wx_reverse, wp_neg, wp_rng1, wp_rng2, evEs, ev_asg, ev_ex, ev_ret, ev_retn, ev_iff, ev_for, ev_pass, ev_brk, ev_cont, ev_nope, wp_no, evT, evAnd, evOr, evTA, evTO, evP, evC, wp_bnd, wp_ret, wp_opt, wp_see, wp_add, wp_sub, wx_mul, wx_fdiv, wx_mod, wx_addS, wx_addT, wx_idxT, wx_idxL, wx_int, wx_abs, wx_lenL, wx_lenT, wx_lenS, wx_strI, wx_tupT, wx_tupL, wx_listT, wx_listL, wx_listS, wx_slcT, wx_slcL, wx_append, wx_pop0, wx_joinL, wx_split, wx_find, wp_newL, wp_setL, then_nx, then_rt, then_bk, then_ct, fin_rt, fin_nx, asg_name, asg_tup, asgs_nil, asgs_cons, le_line, lt_line, cop_eq, cop_ne, cop_lt, cop_le, cop_gt, cop_ge, cop_in, cop_notin, cop_is0, cop_is1, cop_is2, cop_is3, cop_is4, cop_is5, eq_int, eq_bl, eq_str, tru_non, tru_bl, tru_int, tru_tup, tru_ref, tn_non, tn_bl, tn_int, tn_str, tn_tup, tn_ref, isTn, mt_append, mt_pop0, mt_pop, mt_reverse, mt_clear, mt_join, mt_split, mt_find, mt_startswith, mt_partition, wk_tup, wk_str, wk_ref,
    rdL_cons0, rdL_ro0, rdL_succ, rdM_cons0, rdM_succ, List.map_cons, List.map_nil, List.replicate_succ, List.replicate_zero, List.cons_append, List.nil_append, List.append_nil, List.append_assoc, rdL_at, rdL_at0, rdM_at, rdM_at0, set_at, set_at0, List.length_append, Nat.add_assoc, List.getElem?_cons_succ, List.getElem?_cons_zero, List.set_cons_succ, List.set_cons_zero, Nat.reduceSub, Nat.reduceAdd, Option.map_some, Option.bind_some, Option.some.injEq, exists_eq_left', exists_eq_left, exists_eq', exists_and_left, exists_const, D.int.injEq, D.ref.injEq, D.str.injEq, D.bl.injEq, D.tup.injEq, true_and, and_true, List.length_cons, List.length_nil, atI_lit, ixN_lit, Nat.reduceLT, Nat.reduceLeDiff, Nat.reduceEqDiff, Int.reduceLT, Int.reduceLE, Int.reduceEq, Nat.lt_irrefl, Nat.zero_lt_succ, Nat.reduceMul, Int.reduceNeg, Bool.false_eq_true, if_true, if_false, Nat.zero_add, nlit, eq_self, decide_true, decide_false, reduceIte, Bool.or_false, Bool.false_or, Bool.true_or, Bool.or_true, Bool.and_true, Bool.true_and, Bool.and_false, Bool.false_and, Bool.not_true, Bool.not_false, List.all_cons, List.all_nil, List.any_cons, List.any_nil, hr]
  refine comp_call (G := fun s => D.str s.t) (by simp) hr (line1000 hl) (fun s hs S => show_step_ok (k := k) h (ok s hs)) fun S1 g => ?_
  rw [map_str]
  simp only [wp_cons, wp_nil, wx_asgi, ev_lit, ev_var, ev_gl, ev_tup, ev_lst, ev_bin, ev_neg, ev_cmp, ev_chain, ev_and, ev_or, ev_not, ev_ifx, ev_idx, ev_slc, ev_call, ev_blt, ev_isi, ev_isis, ev_mth, ev_lc, ei_val, ei_rng1, ei_rng2, ei_zip, ei_enum, wx_addL, ev_fmt, ev_fstr, ev_tupRg1, ev_tupRg2, wp_fmtS, wp_fmtI, wp_fstr, wp_tupRg, wx_reverse, wp_neg, wp_rng1, wp_rng2, evEs, ev_asg, ev_ex, ev_ret, ev_retn, ev_iff, ev_for, ev_pass, ev_brk, ev_cont, ev_nope, wp_no, evT, evAnd, evOr, evTA, evTO, evP, evC, wp_bnd, wp_ret, wp_opt, wp_see, wp_add, wp_sub, wx_mul, wx_fdiv, wx_mod, wx_addS, wx_addT, wx_idxT, wx_idxL, wx_int, wx_abs, wx_lenL, wx_lenT, wx_lenS, wx_strI, wx_tupT, wx_tupL, wx_listT, wx_listL, wx_listS, wx_slcT, wx_slcL, wx_append, wx_pop0, wx_joinL, wx_split, wx_find, wp_newL, wp_setL, then_nx, then_rt, then_bk, then_ct, fin_rt, fin_nx, asg_name, asg_tup, asgs_nil, asgs_cons, le_line, lt_line, cop_eq, cop_ne, cop_lt, cop_le, cop_gt, cop_ge, cop_in, cop_notin, cop_is0, cop_is1, cop_is2, cop_is3, cop_is4, cop_is5, eq_int, eq_bl, eq_str, tru_non, tru_bl, tru_int, tru_tup, tru_ref, tn_non, tn_bl, tn_int, tn_str, tn_tup, tn_ref, isTn, mt_append, mt_pop0, mt_pop, mt_reverse, mt_clear, mt_join, mt_split, mt_find, mt_startswith, mt_partition, wk_tup, wk_str, wk_ref,
    rdL_cons0, rdL_ro0, rdL_succ, rdM_cons0, rdM_succ, List.map_cons, List.map_nil, List.replicate_succ, List.replicate_zero, List.cons_append, List.nil_append, List.append_nil, List.append_assoc, rdL_at, rdL_at0, rdM_at, rdM_at0, set_at, set_at0, List.length_append, Nat.add_assoc, List.getElem?_cons_succ, List.getElem?_cons_zero, List.set_cons_succ, List.set_cons_zero, Nat.reduceSub, Nat.reduceAdd, Option.map_some, Option.bind_some, Option.some.injEq, exists_eq_left', exists_eq_left, exists_eq', exists_and_left, exists_const, D.int.injEq, D.ref.injEq, D.str.injEq, D.bl.injEq, D.tup.injEq, true_and, and_true, List.length_cons, List.length_nil, atI_lit, ixN_lit, Nat.reduceLT, Nat.reduceLeDiff, Nat.reduceEqDiff, Int.reduceLT, Int.reduceLE, Int.reduceEq, Nat.lt_irrefl, Nat.zero_lt_succ, Nat.reduceMul, Int.reduceNeg, Bool.false_eq_true, if_true, if_false, Nat.zero_add, nlit, eq_self, decide_true, decide_false, reduceIte, Bool.or_false, Bool.false_or, Bool.true_or, Bool.or_true, Bool.and_true, Bool.true_and, Bool.and_false, Bool.false_and, Bool.not_true, Bool.not_false, List.all_cons, List.all_nil, List.any_cons, List.any_nil]
  exact ⟨_, strsOf_map _, run_join ok hl, rfl, g.ap _⟩
theorem rdM_rd {S : Store} {n : Nat} {xs : List D} (h : rdM S n = some xs) : rdL S n = some xs := rdM_rdL h
theorem read_run_ok (h : FT ds con) {ss : List Sg} (ok : AllOk ss) (hl : ss.length ≤ 1000) : Wp (callD ds con fuel (k + 5) "read_run" [.str (runT ss)]) S fun a S1 => ∃ j, a = .ref j ∧ S.length ≤ j ∧ Gr S S1 ∧ rdM S1 j = some (ss.map Sg.d) := by
  refine wp_call h.rrun rfl rfl ?_
  simp only [Lib.df_read_run, Lib.b_read_run]
  by_cases he : ss = []
  · subst he
    have e : decide (runT [] = Str.ofString "") = true := by decide +kernel
    simp only [wp_cons, wp_nil, wx_asgi, ev_lit, ev_var, ev_gl, ev_tup, ev_lst, ev_bin, ev_neg, ev_cmp, ev_chain, ev_and, ev_or, ev_not, ev_ifx, ev_idx, ev_slc, ev_call, ev_blt, ev_isi, ev_isis, ev_mth, ev_lc, ei_val, ei_rng1, ei_rng2, ei_zip, ei_enum, wx_addL, ev_fmt, ev_fstr, ev_tupRg1, ev_tupRg2, wp_fmtS, wp_fmtI, wp_fstr, wp_tupRg, wx_reverse, wp_neg, wp_rng1, wp_rng2, evEs, ev_asg, ev_ex, ev_ret, ev_retn, ev_iff, ev_for, ev_pass, ev_brk, ev_cont, ev_nope, wp_no, evT, evAnd, evOr, evTA, evTO, evP, evC, wp_bnd, wp_ret, wp_opt, wp_see, wp_add, wp_sub, wx_mul, wx_fdiv, wx_mod, wx_addS, wx_addT, wx_idxT, wx_idxL, wx_int, wx_abs, wx_lenL, wx_lenT, wx_lenS, wx_strI, wx_tupT, wx_tupL, wx_listT, wx_listL, wx_listS, wx_slcT, wx_slcL, wx_append, wx_pop0, wx_joinL, wx_split, wx_find, wp_newL, wp_setL, then_nx, then_rt, then_bk, then_ct, fin_rt, fin_nx, asg_name, asg_tup, asgs_nil, asgs_cons, le_line, lt_line, cop_eq, cop_ne, cop_lt, cop_le, cop_gt, cop_ge, cop_in, cop_notin, cop_is0, cop_is1, cop_is2, cop_is3, cop_is4, cop_is5, eq_int, eq_bl, eq_str, tru_non, tru_bl, tru_int, tru_tup, tru_ref, tn_non, tn_bl, tn_int, tn_str, tn_tup, tn_ref, isTn, mt_append, mt_pop0, mt_pop, mt_reverse, mt_clear, mt_join, mt_split, mt_find, mt_startswith, mt_partition, wk_tup, wk_str, wk_ref,
    rdL_cons0, rdL_ro0, rdL_succ, rdM_cons0, rdM_succ, List.map_cons, List.map_nil, List.replicate_succ, List.replicate_zero, List.cons_append, List.nil_append, List.append_nil, List.append_assoc, rdL_at, rdL_at0, rdM_at, rdM_at0, set_at, set_at0, List.length_append, Nat.add_assoc, List.getElem?_cons_succ, List.getElem?_cons_zero, List.set_cons_succ, List.set_cons_zero, Nat.reduceSub, Nat.reduceAdd, Option.map_some, Option.bind_some, Option.some.injEq, exists_eq_left', exists_eq_left, exists_eq', exists_and_left, exists_const, D.int.injEq, D.ref.injEq, D.str.injEq, D.bl.injEq, D.tup.injEq, true_and, and_true, List.length_cons, List.length_nil, atI_lit, ixN_lit, Nat.reduceLT, Nat.reduceLeDiff, Nat.reduceEqDiff, Int.reduceLT, Int.reduceLE, Int.reduceEq, Nat.lt_irrefl, Nat.zero_lt_succ, Nat.reduceMul, Int.reduceNeg, Bool.false_eq_true, if_true, if_false, Nat.zero_add, nlit, eq_self, decide_true, decide_false, reduceIte, Bool.or_false, Bool.false_or, Bool.true_or, Bool.or_true, Bool.and_true, Bool.true_and, Bool.and_false, Bool.false_and, Bool.not_true, Bool.not_false, List.all_cons, List.all_nil, List.any_cons, List.any_nil, e]
    exact ⟨Nat.le_refl _, .app _⟩
  · have hlen := run_len ok hl
    have h2000 : 19002 ≤ sizeLine := by decide
    simp only [wp_cons, wp_nil, wx_asgi, ev_lit, ev_var, ev_gl, ev_tup, ev_lst, ev_bin, ev_neg, ev_cmp, ev_chain, ev_and, ev_or, ev_not, ev_ifx, ev_idx, ev_slc, ev_call, ev_blt, ev_isi, ev_isis, ev_mth, ev_lc, ei_val, ei_rng1, ei_rng2, ei_zip, ei_enum, wx_addL, ev_fmt, ev_fstr, ev_tupRg1, ev_tupRg2, wp_fmtS, wp_fmtI, wp_fstr, wp_tupRg, wx_reverse, wp_neg, wp_rng1, wp_rng2, evEs, ev_asg, ev_ex, ev_ret, ev_retn, ev_iff, ev_for, ev_pass, ev_brk, ev_cont, ev_nope, wp_no, evT, evAnd, evOr, evTA, evTO, evP, evC, wp_bnd, wp_ret, wp_opt, wp_see, wp_add, wp_sub, wx_mul, wx_fdiv, wx_mod, wx_addS, wx_addT, wx_idxT, wx_idxL, wx_int, wx_abs, wx_lenL, wx_lenT, wx_lenS, wx_strI, wx_tupT, wx_tupL, wx_listT, wx_listL, wx_listS, wx_slcT, wx_slcL, wx_append, wx_pop0, wx_joinL, wx_split, wx_find, wp_newL, wp_setL, then_nx, then_rt, then_bk, then_ct, fin_rt, fin_nx, asg_name, asg_tup, asgs_nil, asgs_cons, le_line, lt_line, cop_eq, cop_ne, cop_lt, cop_le, cop_gt, cop_ge, cop_in, cop_notin, cop_is0, cop_is1, cop_is2, cop_is3, cop_is4, cop_is5, eq_int, eq_bl, eq_str, tru_non, tru_bl, tru_int, tru_tup, tru_ref, tn_non, tn_bl, tn_int, tn_str, tn_tup, tn_ref, isTn, mt_append, mt_pop0, mt_pop, mt_reverse, mt_clear, mt_join, mt_split, mt_find, mt_startswith, mt_partition, wk_tup, wk_str, wk_ref,
    rdL_cons0, rdL_ro0, rdL_succ, rdM_cons0, rdM_succ, List.map_cons, List.map_nil, List.replicate_succ, List.replicate_zero, List.cons_append, List.nil_append, List.append_nil, List.append_assoc, rdL_at, rdL_at0, rdM_at, rdM_at0, set_at, set_at0, List.length_append, Nat.add_assoc, List.getElem?_cons_succ, List.getElem?_cons_zero, List.set_cons_succ, List.set_cons_zero, Nat.reduceSub, Nat.reduceAdd, Option.map_some, Option.bind_some, Option.some.injEq, exists_eq_left', exists_eq_left, exists_eq', exists_and_left, exists_const, D.int.injEq, D.ref.injEq, D.str.injEq, D.bl.injEq, D.tup.injEq, true_and, and_true, List.length_cons, List.length_nil, atI_lit, ixN_lit, Nat.reduceLT, Nat.reduceLeDiff, Nat.reduceEqDiff, Int.reduceLT, Int.reduceLE, Int.reduceEq, Nat.lt_irrefl, Nat.zero_lt_succ, Nat.reduceMul, Int.reduceNeg, Bool.false_eq_true, if_true, if_false, Nat.zero_add, nlit, eq_self, decide_true, decide_false, reduceIte, Bool.or_false, Bool.false_or, Bool.true_or, Bool.or_true, Bool.and_true, Bool.true_and, Bool.and_false, Bool.false_and, Bool.not_true, Bool.not_false, List.all_cons, List.all_nil, List.any_cons, List.any_nil, run_ne ok he]
    refine ⟨⟨by decide +kernel, Nat.le_trans (by omega : _ ≤ 19002) h2000⟩, ?_⟩
    rw [split_run ok he]
    obtain ⟨I, hI⟩ : ∃ I : Nat → Env → Store → Prop, ∀ i ρ S', I i ρ S' ↔ (∃ (a2 a3 : Option D) (X : Store), ρ = [some (.str (runT ss)), some (.ref S.length), a2, a3] ∧ S' = S ++ .lst ((ss.take i).map Sg.d) :: .lst ((ss.map Sg.t).map .str) :: X) := ⟨_, fun _ _ _ => Iff.rfl⟩
    refine loop_wp (w := wkList _ _) I (fun i ρ S1 hi hh => ?_) (fun ρ S1 hh => ?_) _ 0 _ _ (by simp [wkList]) ((hI _ _ _).mpr ⟨none, none, [], rfl, by simp⟩)
    · obtain ⟨a2, a3, X, rfl, rfl⟩ := (hI _ _ _).mp hh
      have hi : i < ss.length := by simpa [wkList] using hi
      have hs := ok ss[i] (List.getElem_mem hi)
      refine ⟨.str ss[i].t, ?_, ?_⟩
      · simp only [wkList, wp_cons, wp_nil, wx_asgi, ev_lit, ev_var, ev_gl, ev_tup, ev_lst, ev_bin, ev_neg, ev_cmp, ev_chain, ev_and, ev_or, ev_not, ev_ifx, ev_idx, ev_slc, ev_call, ev_blt, ev_isi, ev_isis, ev_mth, ev_lc, ei_val, ei_rng1, ei_rng2, ei_zip, ei_enum, wx_addL, ev_fmt, ev_fstr, ev_tupRg1, ev_tupRg2, wp_fmtS, wp_fmtI, wp_fstr, wp_tupRg, wx_reverse, wp_neg, wp_rng1, wp_rng2, evEs, ev_asg, ev_ex, ev_ret, ev_retn, ev_iff, ev_for, ev_pass, ev_brk, ev_cont, ev_nope, wp_no, evT, evAnd, evOr, evTA, evTO, evP, evC, wp_bnd, wp_ret, wp_opt, wp_see, wp_add, wp_sub, wx_mul, wx_fdiv, wx_mod, wx_addS, wx_addT, wx_idxT, wx_idxL, wx_int, wx_abs, wx_lenL, wx_lenT, wx_lenS, wx_strI, wx_tupT, wx_tupL, wx_listT, wx_listL, wx_listS, wx_slcT, wx_slcL, wx_append, wx_pop0, wx_joinL, wx_split, wx_find, wp_newL, wp_setL, then_nx, then_rt, then_bk, then_ct, fin_rt, fin_nx, asg_name, asg_tup, asgs_nil, asgs_cons, le_line, lt_line, cop_eq, cop_ne, cop_lt, cop_le, cop_gt, cop_ge, cop_in, cop_notin, cop_is0, cop_is1, cop_is2, cop_is3, cop_is4, cop_is5, eq_int, eq_bl, eq_str, tru_non, tru_bl, tru_int, tru_tup, tru_ref, tn_non, tn_bl, tn_int, tn_str, tn_tup, tn_ref, isTn, mt_append, mt_pop0, mt_pop, mt_reverse, mt_clear, mt_join, mt_split, mt_find, mt_startswith, mt_partition, wk_tup, wk_str, wk_ref,
    rdL_cons0, rdL_ro0, rdL_succ, rdM_cons0, rdM_succ, List.map_cons, List.map_nil, List.replicate_succ, List.replicate_zero, List.cons_append, List.nil_append, List.append_nil, List.append_assoc, rdL_at, rdL_at0, rdM_at, rdM_at0, set_at, set_at0, List.length_append, Nat.add_assoc, List.getElem?_cons_succ, List.getElem?_cons_zero, List.set_cons_succ, List.set_cons_zero, Nat.reduceSub, Nat.reduceAdd, Option.map_some, Option.bind_some, Option.some.injEq, exists_eq_left', exists_eq_left, exists_eq', exists_and_left, exists_const, D.int.injEq, D.ref.injEq, D.str.injEq, D.bl.injEq, D.tup.injEq, true_and, and_true, List.length_cons, List.length_nil, atI_lit, ixN_lit, Nat.reduceLT, Nat.reduceLeDiff, Nat.reduceEqDiff, Int.reduceLT, Int.reduceLE, Int.reduceEq, Nat.lt_irrefl, Nat.zero_lt_succ, Nat.reduceMul, Int.reduceNeg, Bool.false_eq_true, if_true, if_false, Nat.zero_add, nlit, eq_self, decide_true, decide_false, reduceIte, Bool.or_false, Bool.false_or, Bool.true_or, Bool.or_true, Bool.and_true, Bool.true_and, Bool.and_false, Bool.false_and, Bool.not_true, Bool.not_false, List.all_cons, List.all_nil, List.any_cons, List.any_nil]
        simp [List.getElem?_eq_getElem hi]
      · rw [wx_stepF]
        simp only [wp_cons, wp_nil, wx_asgi, ev_lit, ev_var, ev_gl, ev_tup, ev_lst, ev_bin, ev_neg, ev_cmp, ev_chain, ev_and, ev_or, ev_not, ev_ifx, ev_idx, ev_slc, ev_call, ev_blt, ev_isi, ev_isis, ev_mth, ev_lc, ei_val, ei_rng1, ei_rng2, ei_zip, ei_enum, wx_addL, ev_fmt, ev_fstr, ev_tupRg1, ev_tupRg2, wp_fmtS, wp_fmtI, wp_fstr, wp_tupRg, wx_reverse, wp_neg, wp_rng1, wp_rng2, evEs, ev_asg, ev_ex, ev_ret, ev_retn, ev_iff, ev_for, ev_pass, ev_brk, ev_cont, ev_nope, wp_no, evT, evAnd, evOr, evTA, evTO, evP, evC, wp_bnd, wp_ret, wp_opt, wp_see, wp_add, wp_sub, wx_mul, wx_fdiv, wx_mod, wx_addS, wx_addT, wx_idxT, wx_idxL, wx_int, wx_abs, wx_lenL, wx_lenT, wx_lenS, wx_strI, wx_tupT, wx_tupL, wx_listT, wx_listL, wx_listS, wx_slcT, wx_slcL, wx_append, wx_pop0, wx_joinL, wx_split, wx_find, wp_newL, wp_setL, then_nx, then_rt, then_bk, then_ct, fin_rt, fin_nx, asg_name, asg_tup, asgs_nil, asgs_cons, le_line, lt_line, cop_eq, cop_ne, cop_lt, cop_le, cop_gt, cop_ge, cop_in, cop_notin, cop_is0, cop_is1, cop_is2, cop_is3, cop_is4, cop_is5, eq_int, eq_bl, eq_str, tru_non, tru_bl, tru_int, tru_tup, tru_ref, tn_non, tn_bl, tn_int, tn_str, tn_tup, tn_ref, isTn, mt_append, mt_pop0, mt_pop, mt_reverse, mt_clear, mt_join, mt_split, mt_find, mt_startswith, mt_partition, wk_tup, wk_str, wk_ref,
    rdL_cons0, rdL_ro0, rdL_succ, rdM_cons0, rdM_succ, List.map_cons, List.map_nil, List.replicate_succ, List.replicate_zero, List.cons_append, List.nil_append, List.append_nil, List.append_assoc, rdL_at, rdL_at0, rdM_at, rdM_at0, set_at, set_at0, List.length_append, Nat.add_assoc, List.getElem?_cons_succ, List.getElem?_cons_zero, List.set_cons_succ, List.set_cons_zero, Nat.reduceSub, Nat.reduceAdd, Option.map_some, Option.bind_some, Option.some.injEq, exists_eq_left', exists_eq_left, exists_eq', exists_and_left, exists_const, D.int.injEq, D.ref.injEq, D.str.injEq, D.bl.injEq, D.tup.injEq, true_and, and_true, List.length_cons, List.length_nil, atI_lit, ixN_lit, Nat.reduceLT, Nat.reduceLeDiff, Nat.reduceEqDiff, Int.reduceLT, Int.reduceLE, Int.reduceEq, Nat.lt_irrefl, Nat.zero_lt_succ, Nat.reduceMul, Int.reduceNeg, Bool.false_eq_true, if_true, if_false, Nat.zero_add, nlit, eq_self, decide_true, decide_false, reduceIte, Bool.or_false, Bool.false_or, Bool.true_or, Bool.or_true, Bool.and_true, Bool.true_and, Bool.and_false, Bool.false_and, Bool.not_true, Bool.not_false, List.all_cons, List.all_nil, List.any_cons, List.any_nil]
        refine (read_step_ok (k := k) h hs).to fun S2 g => ?_
        obtain ⟨Y, rfl⟩ := g
        have ei : ∀ S', copF .isN ss[i].d .non S' = some false := fun S' => by cases ss[i] <;> rfl
        have hlt : ((ss.take i).map Sg.d).length ≤ 1000 := by simp; omega
        have hge : decide ((1000 : Int) ≤ (((ss.take i).map Sg.d).length : Nat)) = false := decide_eq_false (by simp; omega)
        simp only [wp_cons, wp_nil, wx_asgi, ev_lit, ev_var, ev_gl, ev_tup, ev_lst, ev_bin, ev_neg, ev_cmp, ev_chain, ev_and, ev_or, ev_not, ev_ifx, ev_idx, ev_slc, ev_call, ev_blt, ev_isi, ev_isis, ev_mth, ev_lc, ei_val, ei_rng1, ei_rng2, ei_zip, ei_enum, wx_addL, ev_fmt, ev_fstr, ev_tupRg1, ev_tupRg2, wp_fmtS, wp_fmtI, wp_fstr, wp_tupRg, wx_reverse, wp_neg, wp_rng1, wp_rng2, evEs, ev_asg, ev_ex, ev_ret, ev_retn, ev_iff, ev_for, ev_pass, ev_brk, ev_cont, ev_nope, wp_no, evT, evAnd, evOr, evTA, evTO, evP, evC, wp_bnd, wp_ret, wp_opt, wp_see, wp_add, wp_sub, wx_mul, wx_fdiv, wx_mod, wx_addS, wx_addT, wx_idxT, wx_idxL, wx_int, wx_abs, wx_lenL, wx_lenT, wx_lenS, wx_strI, wx_tupT, wx_tupL, wx_listT, wx_listL, wx_listS, wx_slcT, wx_slcL, wx_append, wx_pop0, wx_joinL, wx_split, wx_find, wp_newL, wp_setL, then_nx, then_rt, then_bk, then_ct, fin_rt, fin_nx, asg_name, asg_tup, asgs_nil, asgs_cons, le_line, lt_line, cop_eq, cop_ne, cop_lt, cop_le, cop_gt, cop_ge, cop_in, cop_notin, cop_is0, cop_is1, cop_is2, cop_is3, cop_is4, cop_is5, eq_int, eq_bl, eq_str, tru_non, tru_bl, tru_int, tru_tup, tru_ref, tn_non, tn_bl, tn_int, tn_str, tn_tup, tn_ref, isTn, mt_append, mt_pop0, mt_pop, mt_reverse, mt_clear, mt_join, mt_split, mt_find, mt_startswith, mt_partition, wk_tup, wk_str, wk_ref,
    rdL_cons0, rdL_ro0, rdL_succ, rdM_cons0, rdM_succ, List.map_cons, List.map_nil, List.replicate_succ, List.replicate_zero, List.cons_append, List.nil_append, List.append_nil, List.append_assoc, rdL_at, rdL_at0, rdM_at, rdM_at0, set_at, set_at0, List.length_append, Nat.add_assoc, List.getElem?_cons_succ, List.getElem?_cons_zero, List.set_cons_succ, List.set_cons_zero, Nat.reduceSub, Nat.reduceAdd, Option.map_some, Option.bind_some, Option.some.injEq, exists_eq_left', exists_eq_left, exists_eq', exists_and_left, exists_const, D.int.injEq, D.ref.injEq, D.str.injEq, D.bl.injEq, D.tup.injEq, true_and, and_true, List.length_cons, List.length_nil, atI_lit, ixN_lit, Nat.reduceLT, Nat.reduceLeDiff, Nat.reduceEqDiff, Int.reduceLT, Int.reduceLE, Int.reduceEq, Nat.lt_irrefl, Nat.zero_lt_succ, Nat.reduceMul, Int.reduceNeg, Bool.false_eq_true, if_true, if_false, Nat.zero_add, nlit, eq_self, decide_true, decide_false, reduceIte, Bool.or_false, Bool.false_or, Bool.true_or, Bool.or_true, Bool.and_true, Bool.true_and, Bool.and_false, Bool.false_and, Bool.not_true, Bool.not_false, List.all_cons, List.all_nil, List.any_cons, List.any_nil, ei, h.most, hge, lt_line hlt]
        refine (hI (i + 1) _ _).mpr ⟨_, _, X ++ Y, rfl, ?_⟩
        rw [List.take_succ_eq_append_getElem hi, List.map_append]
        simp
    · obtain ⟨a2, a3, X, rfl, rfl⟩ := (hI _ _ _).mp hh
      have e1 : (wkList (S.length + 1) ((ss.map Sg.t).map D.str).length).n = ss.length := by simp [wkList]
      refine ⟨?_, ?_⟩
      · simp only [wkList, wp_cons, wp_nil, wx_asgi, ev_lit, ev_var, ev_gl, ev_tup, ev_lst, ev_bin, ev_neg, ev_cmp, ev_chain, ev_and, ev_or, ev_not, ev_ifx, ev_idx, ev_slc, ev_call, ev_blt, ev_isi, ev_isis, ev_mth, ev_lc, ei_val, ei_rng1, ei_rng2, ei_zip, ei_enum, wx_addL, ev_fmt, ev_fstr, ev_tupRg1, ev_tupRg2, wp_fmtS, wp_fmtI, wp_fstr, wp_tupRg, wx_reverse, wp_neg, wp_rng1, wp_rng2, evEs, ev_asg, ev_ex, ev_ret, ev_retn, ev_iff, ev_for, ev_pass, ev_brk, ev_cont, ev_nope, wp_no, evT, evAnd, evOr, evTA, evTO, evP, evC, wp_bnd, wp_ret, wp_opt, wp_see, wp_add, wp_sub, wx_mul, wx_fdiv, wx_mod, wx_addS, wx_addT, wx_idxT, wx_idxL, wx_int, wx_abs, wx_lenL, wx_lenT, wx_lenS, wx_strI, wx_tupT, wx_tupL, wx_listT, wx_listL, wx_listS, wx_slcT, wx_slcL, wx_append, wx_pop0, wx_joinL, wx_split, wx_find, wp_newL, wp_setL, then_nx, then_rt, then_bk, then_ct, fin_rt, fin_nx, asg_name, asg_tup, asgs_nil, asgs_cons, le_line, lt_line, cop_eq, cop_ne, cop_lt, cop_le, cop_gt, cop_ge, cop_in, cop_notin, cop_is0, cop_is1, cop_is2, cop_is3, cop_is4, cop_is5, eq_int, eq_bl, eq_str, tru_non, tru_bl, tru_int, tru_tup, tru_ref, tn_non, tn_bl, tn_int, tn_str, tn_tup, tn_ref, isTn, mt_append, mt_pop0, mt_pop, mt_reverse, mt_clear, mt_join, mt_split, mt_find, mt_startswith, mt_partition, wk_tup, wk_str, wk_ref,
    rdL_cons0, rdL_ro0, rdL_succ, rdM_cons0, rdM_succ, List.map_cons, List.map_nil, List.replicate_succ, List.replicate_zero, List.cons_append, List.nil_append, List.append_nil, List.append_assoc, rdL_at, rdL_at0, rdM_at, rdM_at0, set_at, set_at0, List.length_append, Nat.add_assoc, List.getElem?_cons_succ, List.getElem?_cons_zero, List.set_cons_succ, List.set_cons_zero, Nat.reduceSub, Nat.reduceAdd, Option.map_some, Option.bind_some, Option.some.injEq, exists_eq_left', exists_eq_left, exists_eq', exists_and_left, exists_const, D.int.injEq, D.ref.injEq, D.str.injEq, D.bl.injEq, D.tup.injEq, true_and, and_true, List.length_cons, List.length_nil, atI_lit, ixN_lit, Nat.reduceLT, Nat.reduceLeDiff, Nat.reduceEqDiff, Int.reduceLT, Int.reduceLE, Int.reduceEq, Nat.lt_irrefl, Nat.zero_lt_succ, Nat.reduceMul, Int.reduceNeg, Bool.false_eq_true, if_true, if_false, Nat.zero_add, nlit, eq_self, decide_true, decide_false, reduceIte, Bool.or_false, Bool.false_or, Bool.true_or, Bool.or_true, Bool.and_true, Bool.true_and, Bool.and_false, Bool.false_and, Bool.not_true, Bool.not_false, List.all_cons, List.all_nil, List.any_cons, List.any_nil]
        exact decide_eq_true (Nat.le_refl _)
      · rw [e1, List.take_length]
        simp only [wp_cons, wp_nil, wx_asgi, ev_lit, ev_var, ev_gl, ev_tup, ev_lst, ev_bin, ev_neg, ev_cmp, ev_chain, ev_and, ev_or, ev_not, ev_ifx, ev_idx, ev_slc, ev_call, ev_blt, ev_isi, ev_isis, ev_mth, ev_lc, ei_val, ei_rng1, ei_rng2, ei_zip, ei_enum, wx_addL, ev_fmt, ev_fstr, ev_tupRg1, ev_tupRg2, wp_fmtS, wp_fmtI, wp_fstr, wp_tupRg, wx_reverse, wp_neg, wp_rng1, wp_rng2, evEs, ev_asg, ev_ex, ev_ret, ev_retn, ev_iff, ev_for, ev_pass, ev_brk, ev_cont, ev_nope, wp_no, evT, evAnd, evOr, evTA, evTO, evP, evC, wp_bnd, wp_ret, wp_opt, wp_see, wp_add, wp_sub, wx_mul, wx_fdiv, wx_mod, wx_addS, wx_addT, wx_idxT, wx_idxL, wx_int, wx_abs, wx_lenL, wx_lenT, wx_lenS, wx_strI, wx_tupT, wx_tupL, wx_listT, wx_listL, wx_listS, wx_slcT, wx_slcL, wx_append, wx_pop0, wx_joinL, wx_split, wx_find, wp_newL, wp_setL, then_nx, then_rt, then_bk, then_ct, fin_rt, fin_nx, asg_name, asg_tup, asgs_nil, asgs_cons, le_line, lt_line, cop_eq, cop_ne, cop_lt, cop_le, cop_gt, cop_ge, cop_in, cop_notin, cop_is0, cop_is1, cop_is2, cop_is3, cop_is4, cop_is5, eq_int, eq_bl, eq_str, tru_non, tru_bl, tru_int, tru_tup, tru_ref, tn_non, tn_bl, tn_int, tn_str, tn_tup, tn_ref, isTn, mt_append, mt_pop0, mt_pop, mt_reverse, mt_clear, mt_join, mt_split, mt_find, mt_startswith, mt_partition, wk_tup, wk_str, wk_ref,
    rdL_cons0, rdL_ro0, rdL_succ, rdM_cons0, rdM_succ, List.map_cons, List.map_nil, List.replicate_succ, List.replicate_zero, List.cons_append, List.nil_append, List.append_nil, List.append_assoc, rdL_at, rdL_at0, rdM_at, rdM_at0, set_at, set_at0, List.length_append, Nat.add_assoc, List.getElem?_cons_succ, List.getElem?_cons_zero, List.set_cons_succ, List.set_cons_zero, Nat.reduceSub, Nat.reduceAdd, Option.map_some, Option.bind_some, Option.some.injEq, exists_eq_left', exists_eq_left, exists_eq', exists_and_left, exists_const, D.int.injEq, D.ref.injEq, D.str.injEq, D.bl.injEq, D.tup.injEq, true_and, and_true, List.length_cons, List.length_nil, atI_lit, ixN_lit, Nat.reduceLT, Nat.reduceLeDiff, Nat.reduceEqDiff, Int.reduceLT, Int.reduceLE, Int.reduceEq, Nat.lt_irrefl, Nat.zero_lt_succ, Nat.reduceMul, Int.reduceNeg, Bool.false_eq_true, if_true, if_false, Nat.zero_add, nlit, eq_self, decide_true, decide_false, reduceIte, Bool.or_false, Bool.false_or, Bool.true_or, Bool.or_true, Bool.and_true, Bool.true_and, Bool.and_false, Bool.false_and, Bool.not_true, Bool.not_false, List.all_cons, List.all_nil, List.any_cons, List.any_nil]
        exact ⟨Nat.le_refl _, .app _⟩
theorem flt_sg (s : Sg) : Flt 2 s.d := by
  cases s with
  | go r =>
    refine .tup fun x hx => ?_
    simp only [List.mem_cons, List.not_mem_nil, or_false] at hx
    rcases hx with rfl | rfl
    · exact .str _
    · exact .int _
  | send l os =>
    refine .tup fun x hx => ?_
    simp only [List.mem_cons, List.not_mem_nil, or_false] at hx
    rcases hx with rfl | rfl | rfl
    · exact .str _
    · exact .int _
    · exact flt_tupI os
/-- two lists of the same items -/
theorem same_list (h : FD ds Lib.df__law_same) {n m1 m2 : Nat} {xs : List D} (hx : ∀ x ∈ xs, Flt n x) (h1 : rdL S m1 = some xs) (h2 : rdL S m2 = some xs) : Pu (callD ds con fuel (k + n + 2) "_law_same" [.ref m1, .ref m2]) S (.bl true) := by
  refine pu_call h rfl rfl ?_
  simp only [Lib.df__law_same, Lib.b__law_same]
  have ez : zipF S (.ref m1) (.ref m2) = some (wkZip m1 m2 (min xs.length xs.length)) := by simp only [zipF, h1, h2]
  simp only [wp_cons, wp_nil, wx_asgi, ev_lit, ev_var, ev_gl, ev_tup, ev_lst, ev_bin, ev_neg, ev_cmp, ev_chain, ev_and, ev_or, ev_not, ev_ifx, ev_idx, ev_slc, ev_call, ev_blt, ev_isi, ev_isis, ev_mth, ev_lc, ei_val, ei_rng1, ei_rng2, ei_zip, ei_enum, wx_addL, ev_fmt, ev_fstr, ev_tupRg1, ev_tupRg2, wp_fmtS, wp_fmtI, wp_fstr, wp_tupRg, wx_reverse, wp_neg, wp_rng1, wp_rng2, evEs, ev_asg, ev_ex, ev_ret, ev_retn, ev_iff, ev_for, ev_pass, ev_brk, ev_cont, ev_nope, wp_no, evT, evAnd, evOr, evTA, evTO, evP, evC, wp_bnd, wp_ret, wp_opt, wp_see, wp_add, wp_sub, wx_mul, wx_fdiv, wx_mod, wx_addS, wx_addT, wx_idxT, wx_idxL, wx_int, wx_abs, wx_lenL, wx_lenT, wx_lenS, wx_strI, wx_tupT, wx_tupL, wx_listT, wx_listL, wx_listS, wx_slcT, wx_slcL, wx_append, wx_pop0, wx_joinL, wx_split, wx_find, wp_newL, wp_setL, then_nx, then_rt, then_bk, then_ct, fin_rt, fin_nx, asg_name, asg_tup, asgs_nil, asgs_cons, le_line, lt_line, cop_eq, cop_ne, cop_lt, cop_le, cop_gt, cop_ge, cop_in, cop_notin, cop_is0, cop_is1, cop_is2, cop_is3, cop_is4, cop_is5, eq_int, eq_bl, eq_str, tru_non, tru_bl, tru_int, tru_tup, tru_ref, tn_non, tn_bl, tn_int, tn_str, tn_tup, tn_ref, isTn, mt_append, mt_pop0, mt_pop, mt_reverse, mt_clear, mt_join, mt_split, mt_find, mt_startswith, mt_partition, wk_tup, wk_str, wk_ref,
    rdL_cons0, rdL_ro0, rdL_succ, rdM_cons0, rdM_succ, List.map_cons, List.map_nil, List.replicate_succ, List.replicate_zero, List.cons_append, List.nil_append, List.append_nil, List.append_assoc, rdL_at, rdL_at0, rdM_at, rdM_at0, set_at, set_at0, List.length_append, Nat.add_assoc, List.getElem?_cons_succ, List.getElem?_cons_zero, List.set_cons_succ, List.set_cons_zero, Nat.reduceSub, Nat.reduceAdd, Option.map_some, Option.bind_some, Option.some.injEq, exists_eq_left', exists_eq_left, exists_eq', exists_and_left, exists_const, D.int.injEq, D.ref.injEq, D.str.injEq, D.bl.injEq, D.tup.injEq, true_and, and_true, List.length_cons, List.length_nil, atI_lit, ixN_lit, Nat.reduceLT, Nat.reduceLeDiff, Nat.reduceEqDiff, Int.reduceLT, Int.reduceLE, Int.reduceEq, Nat.lt_irrefl, Nat.zero_lt_succ, Nat.reduceMul, Int.reduceNeg, Bool.false_eq_true, if_true, if_false, Nat.zero_add, nlit, eq_self, decide_true, decide_false, reduceIte, Bool.or_false, Bool.false_or, Bool.true_or, Bool.or_true, Bool.and_true, Bool.true_and, Bool.and_false, Bool.false_and, Bool.not_true, Bool.not_false, List.all_cons, List.all_nil, List.any_cons, List.any_nil, h1, h2, ez]
  obtain ⟨I, hI⟩ : ∃ I : Nat → Env → Store → Prop, ∀ i ρ S', I i ρ S' ↔ (∃ (a2 a3 : Option D), ρ = [some (.ref m1), some (.ref m2), a2, a3] ∧ Gr S S') := ⟨_, fun _ _ _ => Iff.rfl⟩
  have en : (wkZip m1 m2 (min xs.length xs.length)).n = xs.length := by simp [wkZip]
  refine loop_wp (w := wkZip m1 m2 _) I (fun i ρ S1 hi hh => ?_) (fun ρ S1 hh => ?_) _ 0 _ _ (by simp) ((hI _ _ _).mpr ⟨none, none, rfl, .refl _⟩)
  · obtain ⟨a2, a3, rfl, g⟩ := (hI _ _ _).mp hh
    have hi : i < xs.length := by rw [en] at hi; exact hi
    refine ⟨.tup [xs[i], xs[i]], by simp [wkZip, g.rdL h1, g.rdL h2, List.getElem?_eq_getElem hi], ?_⟩
    rw [wx_stepF2]
    simp only [wp_cons, wp_nil, wx_asgi, ev_lit, ev_var, ev_gl, ev_tup, ev_lst, ev_bin, ev_neg, ev_cmp, ev_chain, ev_and, ev_or, ev_not, ev_ifx, ev_idx, ev_slc, ev_call, ev_blt, ev_isi, ev_isis, ev_mth, ev_lc, ei_val, ei_rng1, ei_rng2, ei_zip, ei_enum, wx_addL, ev_fmt, ev_fstr, ev_tupRg1, ev_tupRg2, wp_fmtS, wp_fmtI, wp_fstr, wp_tupRg, wx_reverse, wp_neg, wp_rng1, wp_rng2, evEs, ev_asg, ev_ex, ev_ret, ev_retn, ev_iff, ev_for, ev_pass, ev_brk, ev_cont, ev_nope, wp_no, evT, evAnd, evOr, evTA, evTO, evP, evC, wp_bnd, wp_ret, wp_opt, wp_see, wp_add, wp_sub, wx_mul, wx_fdiv, wx_mod, wx_addS, wx_addT, wx_idxT, wx_idxL, wx_int, wx_abs, wx_lenL, wx_lenT, wx_lenS, wx_strI, wx_tupT, wx_tupL, wx_listT, wx_listL, wx_listS, wx_slcT, wx_slcL, wx_append, wx_pop0, wx_joinL, wx_split, wx_find, wp_newL, wp_setL, then_nx, then_rt, then_bk, then_ct, fin_rt, fin_nx, asg_name, asg_tup, asgs_nil, asgs_cons, le_line, lt_line, cop_eq, cop_ne, cop_lt, cop_le, cop_gt, cop_ge, cop_in, cop_notin, cop_is0, cop_is1, cop_is2, cop_is3, cop_is4, cop_is5, eq_int, eq_bl, eq_str, tru_non, tru_bl, tru_int, tru_tup, tru_ref, tn_non, tn_bl, tn_int, tn_str, tn_tup, tn_ref, isTn, mt_append, mt_pop0, mt_pop, mt_reverse, mt_clear, mt_join, mt_split, mt_find, mt_startswith, mt_partition, wk_tup, wk_str, wk_ref,
    rdL_cons0, rdL_ro0, rdL_succ, rdM_cons0, rdM_succ, List.map_cons, List.map_nil, List.replicate_succ, List.replicate_zero, List.cons_append, List.nil_append, List.append_nil, List.append_assoc, rdL_at, rdL_at0, rdM_at, rdM_at0, set_at, set_at0, List.length_append, Nat.add_assoc, List.getElem?_cons_succ, List.getElem?_cons_zero, List.set_cons_succ, List.set_cons_zero, Nat.reduceSub, Nat.reduceAdd, Option.map_some, Option.bind_some, Option.some.injEq, exists_eq_left', exists_eq_left, exists_eq', exists_and_left, exists_const, D.int.injEq, D.ref.injEq, D.str.injEq, D.bl.injEq, D.tup.injEq, true_and, and_true, List.length_cons, List.length_nil, atI_lit, ixN_lit, Nat.reduceLT, Nat.reduceLeDiff, Nat.reduceEqDiff, Int.reduceLT, Int.reduceLE, Int.reduceEq, Nat.lt_irrefl, Nat.zero_lt_succ, Nat.reduceMul, Int.reduceNeg, Bool.false_eq_true, if_true, if_false, Nat.zero_add, nlit, eq_self, decide_true, decide_false, reduceIte, Bool.or_false, Bool.false_or, Bool.true_or, Bool.or_true, Bool.and_true, Bool.true_and, Bool.and_false, Bool.false_and, Bool.not_true, Bool.not_false, List.all_cons, List.all_nil, List.any_cons, List.any_nil]
    refine (same_ok h n (hx _ (List.getElem_mem hi))).to fun S2 g2 => ?_
    simp only [wp_cons, wp_nil, wx_asgi, ev_lit, ev_var, ev_gl, ev_tup, ev_lst, ev_bin, ev_neg, ev_cmp, ev_chain, ev_and, ev_or, ev_not, ev_ifx, ev_idx, ev_slc, ev_call, ev_blt, ev_isi, ev_isis, ev_mth, ev_lc, ei_val, ei_rng1, ei_rng2, ei_zip, ei_enum, wx_addL, ev_fmt, ev_fstr, ev_tupRg1, ev_tupRg2, wp_fmtS, wp_fmtI, wp_fstr, wp_tupRg, wx_reverse, wp_neg, wp_rng1, wp_rng2, evEs, ev_asg, ev_ex, ev_ret, ev_retn, ev_iff, ev_for, ev_pass, ev_brk, ev_cont, ev_nope, wp_no, evT, evAnd, evOr, evTA, evTO, evP, evC, wp_bnd, wp_ret, wp_opt, wp_see, wp_add, wp_sub, wx_mul, wx_fdiv, wx_mod, wx_addS, wx_addT, wx_idxT, wx_idxL, wx_int, wx_abs, wx_lenL, wx_lenT, wx_lenS, wx_strI, wx_tupT, wx_tupL, wx_listT, wx_listL, wx_listS, wx_slcT, wx_slcL, wx_append, wx_pop0, wx_joinL, wx_split, wx_find, wp_newL, wp_setL, then_nx, then_rt, then_bk, then_ct, fin_rt, fin_nx, asg_name, asg_tup, asgs_nil, asgs_cons, le_line, lt_line, cop_eq, cop_ne, cop_lt, cop_le, cop_gt, cop_ge, cop_in, cop_notin, cop_is0, cop_is1, cop_is2, cop_is3, cop_is4, cop_is5, eq_int, eq_bl, eq_str, tru_non, tru_bl, tru_int, tru_tup, tru_ref, tn_non, tn_bl, tn_int, tn_str, tn_tup, tn_ref, isTn, mt_append, mt_pop0, mt_pop, mt_reverse, mt_clear, mt_join, mt_split, mt_find, mt_startswith, mt_partition, wk_tup, wk_str, wk_ref,
    rdL_cons0, rdL_ro0, rdL_succ, rdM_cons0, rdM_succ, List.map_cons, List.map_nil, List.replicate_succ, List.replicate_zero, List.cons_append, List.nil_append, List.append_nil, List.append_assoc, rdL_at, rdL_at0, rdM_at, rdM_at0, set_at, set_at0, List.length_append, Nat.add_assoc, List.getElem?_cons_succ, List.getElem?_cons_zero, List.set_cons_succ, List.set_cons_zero, Nat.reduceSub, Nat.reduceAdd, Option.map_some, Option.bind_some, Option.some.injEq, exists_eq_left', exists_eq_left, exists_eq', exists_and_left, exists_const, D.int.injEq, D.ref.injEq, D.str.injEq, D.bl.injEq, D.tup.injEq, true_and, and_true, List.length_cons, List.length_nil, atI_lit, ixN_lit, Nat.reduceLT, Nat.reduceLeDiff, Nat.reduceEqDiff, Int.reduceLT, Int.reduceLE, Int.reduceEq, Nat.lt_irrefl, Nat.zero_lt_succ, Nat.reduceMul, Int.reduceNeg, Bool.false_eq_true, if_true, if_false, Nat.zero_add, nlit, eq_self, decide_true, decide_false, reduceIte, Bool.or_false, Bool.false_or, Bool.true_or, Bool.or_true, Bool.and_true, Bool.true_and, Bool.and_false, Bool.false_and, Bool.not_true, Bool.not_false, List.all_cons, List.all_nil, List.any_cons, List.any_nil]
    exact (hI _ _ _).mpr ⟨_, _, rfl, g.trans g2⟩
  · obtain ⟨a2, a3, rfl, g⟩ := (hI _ _ _).mp hh
    refine ⟨by simp [wkZip, g.rdL h1, g.rdL h2], ?_⟩
    simp only [wp_cons, wp_nil, wx_asgi, ev_lit, ev_var, ev_gl, ev_tup, ev_lst, ev_bin, ev_neg, ev_cmp, ev_chain, ev_and, ev_or, ev_not, ev_ifx, ev_idx, ev_slc, ev_call, ev_blt, ev_isi, ev_isis, ev_mth, ev_lc, ei_val, ei_rng1, ei_rng2, ei_zip, ei_enum, wx_addL, ev_fmt, ev_fstr, ev_tupRg1, ev_tupRg2, wp_fmtS, wp_fmtI, wp_fstr, wp_tupRg, wx_reverse, wp_neg, wp_rng1, wp_rng2, evEs, ev_asg, ev_ex, ev_ret, ev_retn, ev_iff, ev_for, ev_pass, ev_brk, ev_cont, ev_nope, wp_no, evT, evAnd, evOr, evTA, evTO, evP, evC, wp_bnd, wp_ret, wp_opt, wp_see, wp_add, wp_sub, wx_mul, wx_fdiv, wx_mod, wx_addS, wx_addT, wx_idxT, wx_idxL, wx_int, wx_abs, wx_lenL, wx_lenT, wx_lenS, wx_strI, wx_tupT, wx_tupL, wx_listT, wx_listL, wx_listS, wx_slcT, wx_slcL, wx_append, wx_pop0, wx_joinL, wx_split, wx_find, wp_newL, wp_setL, then_nx, then_rt, then_bk, then_ct, fin_rt, fin_nx, asg_name, asg_tup, asgs_nil, asgs_cons, le_line, lt_line, cop_eq, cop_ne, cop_lt, cop_le, cop_gt, cop_ge, cop_in, cop_notin, cop_is0, cop_is1, cop_is2, cop_is3, cop_is4, cop_is5, eq_int, eq_bl, eq_str, tru_non, tru_bl, tru_int, tru_tup, tru_ref, tn_non, tn_bl, tn_int, tn_str, tn_tup, tn_ref, isTn, mt_append, mt_pop0, mt_pop, mt_reverse, mt_clear, mt_join, mt_split, mt_find, mt_startswith, mt_partition, wk_tup, wk_str, wk_ref,
    rdL_cons0, rdL_ro0, rdL_succ, rdM_cons0, rdM_succ, List.map_cons, List.map_nil, List.replicate_succ, List.replicate_zero, List.cons_append, List.nil_append, List.append_nil, List.append_assoc, rdL_at, rdL_at0, rdM_at, rdM_at0, set_at, set_at0, List.length_append, Nat.add_assoc, List.getElem?_cons_succ, List.getElem?_cons_zero, List.set_cons_succ, List.set_cons_zero, Nat.reduceSub, Nat.reduceAdd, Option.map_some, Option.bind_some, Option.some.injEq, exists_eq_left', exists_eq_left, exists_eq', exists_and_left, exists_const, D.int.injEq, D.ref.injEq, D.str.injEq, D.bl.injEq, D.tup.injEq, true_and, and_true, List.length_cons, List.length_nil, atI_lit, ixN_lit, Nat.reduceLT, Nat.reduceLeDiff, Nat.reduceEqDiff, Int.reduceLT, Int.reduceLE, Int.reduceEq, Nat.lt_irrefl, Nat.zero_lt_succ, Nat.reduceMul, Int.reduceNeg, Bool.false_eq_true, if_true, if_false, Nat.zero_add, nlit, eq_self, decide_true, decide_false, reduceIte, Bool.or_false, Bool.false_or, Bool.true_or, Bool.or_true, Bool.and_true, Bool.true_and, Bool.and_false, Bool.false_and, Bool.not_true, Bool.not_false, List.all_cons, List.all_nil, List.any_cons, List.any_nil]
    exact g
end
end My

/-! Steps drawn; the law of runs. -/
namespace My
open PySem PySem.Spec PyProof.Rows L2
section
variable {ds : List Df} {con : Str → Option D} {fuel k : Nat} {sc ce : List D} {G C : List Int} {n : Int} {R : Store}
/-- the items whose draw is 0, from lo on -/
theorem comp_drawR (h : findD ds Lib.df__law_draw.name = some Lib.df__law_draw) (hC : ∀ c ∈ C, 0 ≤ c ∧ c < 1000000000000000000) (hCl : C.length ≤ 63) {ρ : Env} {v : Nat} {nm : Str} {q lo : Int} {m : Nat} (hlo : 0 ≤ lo) (hn : 0 ≤ n ∧ n + m < 900000) (hm : m ≤ 1000)
    (hq : 0 < q ∧ q < 100000) (h0 : ρ[0]? = some (some (.ref 4))) (hv : v ≠ 0 ∧ v < ρ.length) {Q : D → Store → Prop}
    (hQ : ∀ xs G' n', Asc (lo + m) xs → (∀ x ∈ xs, lo ≤ x) → n ≤ n' ∧ n' ≤ n + m → Q (.ref (R.length + 5)) (pst sc ce G' C n' (R ++ [.lst (xs.map .int)]))) :
    Wp (compF (wkRng lo m) (itemF ⟨callD ds con fuel (k + 1), con, fuel⟩ (.var v) (.name v) (.cons (.cmp .eq (.call "_law_draw" (.cons (.var 0) (.cons (.lit (.int q)) .nil))) (.lit (.int 0))) .nil) [(nm, v)] ρ) m 0 []) (pst sc ce G C n R) Q := by
  refine comp_wp (w := wkRng lo m) (fun i acc S => ∃ xs G' n', acc = xs.map .int ∧ xs.length ≤ i ∧ Asc (lo + i) xs ∧ (∀ x ∈ xs, lo ≤ x) ∧ (n ≤ n' ∧ n' ≤ n + i) ∧ S = pst sc ce G' C n' R) (fun i acc S hi => ?_) (fun acc S => ?_) m 0 [] _ (by simp [wkRng]) ⟨[], G, n, rfl, Nat.le_refl _, .nil, (fun x hx => by cases hx), by simp, rfl⟩
  · rintro ⟨xs, G', n', rfl, hxl, ha, hb, hn', rfl⟩
    have hi : i < m := hi
    refine ⟨.int (lo + i), by simp [wkRng], ?_⟩
    have e0 : ((ρ.set v none).set v (some (.int (lo + i))))[0]? = some (some (.ref 4)) := by
      rw [List.getElem?_set_ne hv.1, List.getElem?_set_ne hv.1]; exact h0
    have ev : ((ρ.set v none).set v (some (D.int (lo + i))))[v]? = some (some (.int (lo + i))) := by
      rw [List.getElem?_set_self (by simpa using hv.2)]
    rw [wx_itemF]
    simp only [evC, evT, evE, evEs, wp_bnd, wp_ret, List.map_cons, List.map_nil, wipeD, e0, wp_see, copF, eqF, Option.map_some, Option.some.injEq, exists_eq_left', truF]
    refine (draw_ok h hC hCl (by omega) hq).mono ?_
    rintro a S1 ⟨x, rfl, hx, G2, rfl⟩
    simp only [Option.some.injEq, exists_eq_left', eqF, Option.map_some, truF, ev, wp_ret]
    have ec : lo + ((i + 1 : Nat) : Int) = lo + i + 1 := by omega
    refine ⟨fun hd => ?_, fun hd => ?_⟩
    · refine ⟨by simp; have : (1000 : Nat) < sizeLine := by decide
                 omega, xs ++ [lo + i], G2, n' + 1, by simp, by simp; omega, by rw [ec]; exact ha.snoc (by omega), fun y hy => ?_, by omega, rfl⟩
      rcases List.mem_append.mp hy with hy | hy
      · exact hb y hy
      · rw [List.mem_singleton.mp hy]; omega
    · exact ⟨xs, G2, n' + 1, rfl, by omega, ha.mono (by omega), hb, by omega, rfl⟩
  · rintro ⟨xs, G', n', rfl, hxl, ha, hb, hn', rfl⟩
    refine ⟨rfl, ?_⟩
    have := hQ xs G' n' ha hb hn'
    simpa [Nat.add_assoc] using this
theorem any_step_ok (h : FT ds con) (hC : ∀ c ∈ C, 0 ≤ c ∧ c < 1000000000000000000) (hCl : C.length ≤ 63) (hn : 0 ≤ n ∧ n < 800000) :
    Wp (callD ds con fuel (k + 2) "_law_any_step" [.ref 4]) (pst sc ce G C n R) fun a S1 => ∃ s : Sg, s.Ok ∧ a = s.d ∧ ∃ G' n' X, (n ≤ n' ∧ n' ≤ n + 13) ∧ S1 = pst sc ce G' C n' (R ++ X) := by
  refine wp_call h.lany rfl rfl ?_
  obtain ⟨P, hP⟩ : ∃ P : D → Store → Prop, ∀ a S1, P a S1 ↔ (∃ s : Sg, s.Ok ∧ a = s.d ∧ ∃ G' n' X, (n ≤ n' ∧ n' ≤ n + 13) ∧ S1 = pst sc ce G' C n' (R ++ X)) := ⟨_, fun _ _ => Iff.rfl⟩
  have eP : (fun a S1 => ∃ s : Sg, s.Ok ∧ a = s.d ∧ ∃ G' n' X, (n ≤ n' ∧ n' ≤ n + 13) ∧ S1 = pst sc ce G' C n' (R ++ X)) = P := by
    funext a S1; exact (propext (hP a S1)).symm
  rw [eP]
  simp only [Lib.df__law_any_step, Lib.b__law_any_step]
  simp only [wp_cons, wp_nil, wx_asgi, ev_lit, ev_var, ev_gl, ev_tup, ev_lst, ev_bin, ev_neg, ev_cmp, ev_chain, ev_and, ev_or, ev_not, ev_ifx, ev_idx, ev_slc, ev_call, ev_blt, ev_isi, ev_isis, ev_mth, ev_lc, ei_val, ei_rng1, ei_rng2, ei_zip, ei_enum, wx_addL, ev_fmt, ev_fstr, ev_tupRg1, ev_tupRg2, wp_fmtS, wp_fmtI, wp_fstr, wp_tupRg, wx_reverse, wp_neg, wp_rng1, wp_rng2, evEs, ev_asg, ev_ex, ev_ret, ev_retn, ev_iff, ev_for, ev_pass, ev_brk, ev_cont, ev_nope, wp_no, evT, evAnd, evOr, evTA, evTO, evP, evC, wp_bnd, wp_ret, wp_opt, wp_see, wp_add, wp_sub, wx_mul, wx_fdiv, wx_mod, wx_addS, wx_addT, wx_idxT, wx_idxL, wx_int, wx_abs, wx_lenL, wx_lenT, wx_lenS, wx_strI, wx_tupT, wx_tupL, wx_listT, wx_listL, wx_listS, wx_slcT, wx_slcL, wx_append, wx_pop0, wx_joinL, wx_split, wx_find, wp_newL, wp_setL, then_nx, then_rt, then_bk, then_ct, fin_rt, fin_nx, asg_name, asg_tup, asgs_nil, asgs_cons, le_line, lt_line, cop_eq, cop_ne, cop_lt, cop_le, cop_gt, cop_ge, cop_in, cop_notin, cop_is0, cop_is1, cop_is2, cop_is3, cop_is4, cop_is5, eq_int, eq_bl, eq_str, tru_non, tru_bl, tru_int, tru_tup, tru_ref, tn_non, tn_bl, tn_int, tn_str, tn_tup, tn_ref, isTn, mt_append, mt_pop0, mt_pop, mt_reverse, mt_clear, mt_join, mt_split, mt_find, mt_startswith, mt_partition, wk_tup, wk_str, wk_ref,
    rdL_cons0, rdL_ro0, rdL_succ, rdM_cons0, rdM_succ, List.map_cons, List.map_nil, List.replicate_succ, List.replicate_zero, List.cons_append, List.nil_append, List.append_nil, List.append_assoc, rdL_at, rdL_at0, rdM_at, rdM_at0, set_at, set_at0, List.length_append, Nat.add_assoc, List.getElem?_cons_succ, List.getElem?_cons_zero, List.set_cons_succ, List.set_cons_zero, Nat.reduceSub, Nat.reduceAdd, Option.map_some, Option.bind_some, Option.some.injEq, exists_eq_left', exists_eq_left, exists_eq', exists_and_left, exists_const, D.int.injEq, D.ref.injEq, D.str.injEq, D.bl.injEq, D.tup.injEq, true_and, and_true, List.length_cons, List.length_nil, atI_lit, ixN_lit, Nat.reduceLT, Nat.reduceLeDiff, Nat.reduceEqDiff, Int.reduceLT, Int.reduceLE, Int.reduceEq, Nat.lt_irrefl, Nat.zero_lt_succ, Nat.reduceMul, Int.reduceNeg, Bool.false_eq_true, if_true, if_false, Nat.zero_add, nlit, eq_self, decide_true, decide_false, reduceIte, Bool.or_false, Bool.false_or, Bool.true_or, Bool.or_true, Bool.and_true, Bool.true_and, Bool.and_false, Bool.false_and, Bool.not_true, Bool.not_false, List.all_cons, List.all_nil, List.any_cons, List.any_nil]
  refine (draw_ok h.draw hC hCl (by omega) (by omega)).mono ?_
  rintro _ _ ⟨x, rfl, hx, G1, rfl⟩
  simp only [wp_cons, wp_nil, wx_asgi, ev_lit, ev_var, ev_gl, ev_tup, ev_lst, ev_bin, ev_neg, ev_cmp, ev_chain, ev_and, ev_or, ev_not, ev_ifx, ev_idx, ev_slc, ev_call, ev_blt, ev_isi, ev_isis, ev_mth, ev_lc, ei_val, ei_rng1, ei_rng2, ei_zip, ei_enum, wx_addL, ev_fmt, ev_fstr, ev_tupRg1, ev_tupRg2, wp_fmtS, wp_fmtI, wp_fstr, wp_tupRg, wx_reverse, wp_neg, wp_rng1, wp_rng2, evEs, ev_asg, ev_ex, ev_ret, ev_retn, ev_iff, ev_for, ev_pass, ev_brk, ev_cont, ev_nope, wp_no, evT, evAnd, evOr, evTA, evTO, evP, evC, wp_bnd, wp_ret, wp_opt, wp_see, wp_add, wp_sub, wx_mul, wx_fdiv, wx_mod, wx_addS, wx_addT, wx_idxT, wx_idxL, wx_int, wx_abs, wx_lenL, wx_lenT, wx_lenS, wx_strI, wx_tupT, wx_tupL, wx_listT, wx_listL, wx_listS, wx_slcT, wx_slcL, wx_append, wx_pop0, wx_joinL, wx_split, wx_find, wp_newL, wp_setL, then_nx, then_rt, then_bk, then_ct, fin_rt, fin_nx, asg_name, asg_tup, asgs_nil, asgs_cons, le_line, lt_line, cop_eq, cop_ne, cop_lt, cop_le, cop_gt, cop_ge, cop_in, cop_notin, cop_is0, cop_is1, cop_is2, cop_is3, cop_is4, cop_is5, eq_int, eq_bl, eq_str, tru_non, tru_bl, tru_int, tru_tup, tru_ref, tn_non, tn_bl, tn_int, tn_str, tn_tup, tn_ref, isTn, mt_append, mt_pop0, mt_pop, mt_reverse, mt_clear, mt_join, mt_split, mt_find, mt_startswith, mt_partition, wk_tup, wk_str, wk_ref,
    rdL_cons0, rdL_ro0, rdL_succ, rdM_cons0, rdM_succ, List.map_cons, List.map_nil, List.replicate_succ, List.replicate_zero, List.cons_append, List.nil_append, List.append_nil, List.append_assoc, rdL_at, rdL_at0, rdM_at, rdM_at0, set_at, set_at0, List.length_append, Nat.add_assoc, List.getElem?_cons_succ, List.getElem?_cons_zero, List.set_cons_succ, List.set_cons_zero, Nat.reduceSub, Nat.reduceAdd, Option.map_some, Option.bind_some, Option.some.injEq, exists_eq_left', exists_eq_left, exists_eq', exists_and_left, exists_const, D.int.injEq, D.ref.injEq, D.str.injEq, D.bl.injEq, D.tup.injEq, true_and, and_true, List.length_cons, List.length_nil, atI_lit, ixN_lit, Nat.reduceLT, Nat.reduceLeDiff, Nat.reduceEqDiff, Int.reduceLT, Int.reduceLE, Int.reduceEq, Nat.lt_irrefl, Nat.zero_lt_succ, Nat.reduceMul, Int.reduceNeg, Bool.false_eq_true, if_true, if_false, Nat.zero_add, nlit, eq_self, decide_true, decide_false, reduceIte, Bool.or_false, Bool.false_or, Bool.true_or, Bool.or_true, Bool.and_true, Bool.true_and, Bool.and_false, Bool.false_and, Bool.not_true, Bool.not_false, List.all_cons, List.all_nil, List.any_cons, List.any_nil]
  by_cases h0 : x = 0
  · simp only [wp_cons, wp_nil, wx_asgi, ev_lit, ev_var, ev_gl, ev_tup, ev_lst, ev_bin, ev_neg, ev_cmp, ev_chain, ev_and, ev_or, ev_not, ev_ifx, ev_idx, ev_slc, ev_call, ev_blt, ev_isi, ev_isis, ev_mth, ev_lc, ei_val, ei_rng1, ei_rng2, ei_zip, ei_enum, wx_addL, ev_fmt, ev_fstr, ev_tupRg1, ev_tupRg2, wp_fmtS, wp_fmtI, wp_fstr, wp_tupRg, wx_reverse, wp_neg, wp_rng1, wp_rng2, evEs, ev_asg, ev_ex, ev_ret, ev_retn, ev_iff, ev_for, ev_pass, ev_brk, ev_cont, ev_nope, wp_no, evT, evAnd, evOr, evTA, evTO, evP, evC, wp_bnd, wp_ret, wp_opt, wp_see, wp_add, wp_sub, wx_mul, wx_fdiv, wx_mod, wx_addS, wx_addT, wx_idxT, wx_idxL, wx_int, wx_abs, wx_lenL, wx_lenT, wx_lenS, wx_strI, wx_tupT, wx_tupL, wx_listT, wx_listL, wx_listS, wx_slcT, wx_slcL, wx_append, wx_pop0, wx_joinL, wx_split, wx_find, wp_newL, wp_setL, then_nx, then_rt, then_bk, then_ct, fin_rt, fin_nx, asg_name, asg_tup, asgs_nil, asgs_cons, le_line, lt_line, cop_eq, cop_ne, cop_lt, cop_le, cop_gt, cop_ge, cop_in, cop_notin, cop_is0, cop_is1, cop_is2, cop_is3, cop_is4, cop_is5, eq_int, eq_bl, eq_str, tru_non, tru_bl, tru_int, tru_tup, tru_ref, tn_non, tn_bl, tn_int, tn_str, tn_tup, tn_ref, isTn, mt_append, mt_pop0, mt_pop, mt_reverse, mt_clear, mt_join, mt_split, mt_find, mt_startswith, mt_partition, wk_tup, wk_str, wk_ref,
    rdL_cons0, rdL_ro0, rdL_succ, rdM_cons0, rdM_succ, List.map_cons, List.map_nil, List.replicate_succ, List.replicate_zero, List.cons_append, List.nil_append, List.append_nil, List.append_assoc, rdL_at, rdL_at0, rdM_at, rdM_at0, set_at, set_at0, List.length_append, Nat.add_assoc, List.getElem?_cons_succ, List.getElem?_cons_zero, List.set_cons_succ, List.set_cons_zero, Nat.reduceSub, Nat.reduceAdd, Option.map_some, Option.bind_some, Option.some.injEq, exists_eq_left', exists_eq_left, exists_eq', exists_and_left, exists_const, D.int.injEq, D.ref.injEq, D.str.injEq, D.bl.injEq, D.tup.injEq, true_and, and_true, List.length_cons, List.length_nil, atI_lit, ixN_lit, Nat.reduceLT, Nat.reduceLeDiff, Nat.reduceEqDiff, Int.reduceLT, Int.reduceLE, Int.reduceEq, Nat.lt_irrefl, Nat.zero_lt_succ, Nat.reduceMul, Int.reduceNeg, Bool.false_eq_true, if_true, if_false, Nat.zero_add, nlit, eq_self, decide_true, decide_false, reduceIte, Bool.or_false, Bool.false_or, Bool.true_or, Bool.or_true, Bool.and_true, Bool.true_and, Bool.and_false, Bool.false_and, Bool.not_true, Bool.not_false, List.all_cons, List.all_nil, List.any_cons, List.any_nil, h0]
    refine (draw_ok h.draw hC hCl (by omega) (by omega)).mono ?_
    rintro _ _ ⟨r, rfl, hr, G2, rfl⟩
    simp only [wp_cons, wp_nil, wx_asgi, ev_lit, ev_var, ev_gl, ev_tup, ev_lst, ev_bin, ev_neg, ev_cmp, ev_chain, ev_and, ev_or, ev_not, ev_ifx, ev_idx, ev_slc, ev_call, ev_blt, ev_isi, ev_isis, ev_mth, ev_lc, ei_val, ei_rng1, ei_rng2, ei_zip, ei_enum, wx_addL, ev_fmt, ev_fstr, ev_tupRg1, ev_tupRg2, wp_fmtS, wp_fmtI, wp_fstr, wp_tupRg, wx_reverse, wp_neg, wp_rng1, wp_rng2, evEs, ev_asg, ev_ex, ev_ret, ev_retn, ev_iff, ev_for, ev_pass, ev_brk, ev_cont, ev_nope, wp_no, evT, evAnd, evOr, evTA, evTO, evP, evC, wp_bnd, wp_ret, wp_opt, wp_see, wp_add, wp_sub, wx_mul, wx_fdiv, wx_mod, wx_addS, wx_addT, wx_idxT, wx_idxL, wx_int, wx_abs, wx_lenL, wx_lenT, wx_lenS, wx_strI, wx_tupT, wx_tupL, wx_listT, wx_listL, wx_listS, wx_slcT, wx_slcL, wx_append, wx_pop0, wx_joinL, wx_split, wx_find, wp_newL, wp_setL, then_nx, then_rt, then_bk, then_ct, fin_rt, fin_nx, asg_name, asg_tup, asgs_nil, asgs_cons, le_line, lt_line, cop_eq, cop_ne, cop_lt, cop_le, cop_gt, cop_ge, cop_in, cop_notin, cop_is0, cop_is1, cop_is2, cop_is3, cop_is4, cop_is5, eq_int, eq_bl, eq_str, tru_non, tru_bl, tru_int, tru_tup, tru_ref, tn_non, tn_bl, tn_int, tn_str, tn_tup, tn_ref, isTn, mt_append, mt_pop0, mt_pop, mt_reverse, mt_clear, mt_join, mt_split, mt_find, mt_startswith, mt_partition, wk_tup, wk_str, wk_ref,
    rdL_cons0, rdL_ro0, rdL_succ, rdM_cons0, rdM_succ, List.map_cons, List.map_nil, List.replicate_succ, List.replicate_zero, List.cons_append, List.nil_append, List.append_nil, List.append_assoc, rdL_at, rdL_at0, rdM_at, rdM_at0, set_at, set_at0, List.length_append, Nat.add_assoc, List.getElem?_cons_succ, List.getElem?_cons_zero, List.set_cons_succ, List.set_cons_zero, Nat.reduceSub, Nat.reduceAdd, Option.map_some, Option.bind_some, Option.some.injEq, exists_eq_left', exists_eq_left, exists_eq', exists_and_left, exists_const, D.int.injEq, D.ref.injEq, D.str.injEq, D.bl.injEq, D.tup.injEq, true_and, and_true, List.length_cons, List.length_nil, atI_lit, ixN_lit, Nat.reduceLT, Nat.reduceLeDiff, Nat.reduceEqDiff, Int.reduceLT, Int.reduceLE, Int.reduceEq, Nat.lt_irrefl, Nat.zero_lt_succ, Nat.reduceMul, Int.reduceNeg, Bool.false_eq_true, if_true, if_false, Nat.zero_add, nlit, eq_self, decide_true, decide_false, reduceIte, Bool.or_false, Bool.false_or, Bool.true_or, Bool.or_true, Bool.and_true, Bool.true_and, Bool.and_false, Bool.false_and, Bool.not_true, Bool.not_false, List.all_cons, List.all_nil, List.any_cons, List.any_nil]
    exact (hP _ _).mpr ⟨.go (r - 1), ⟨by omega, by omega⟩, rfl, G2, n + 1 + 1, [], by omega, by simp⟩
  · simp only [wp_cons, wp_nil, wx_asgi, ev_lit, ev_var, ev_gl, ev_tup, ev_lst, ev_bin, ev_neg, ev_cmp, ev_chain, ev_and, ev_or, ev_not, ev_ifx, ev_idx, ev_slc, ev_call, ev_blt, ev_isi, ev_isis, ev_mth, ev_lc, ei_val, ei_rng1, ei_rng2, ei_zip, ei_enum, wx_addL, ev_fmt, ev_fstr, ev_tupRg1, ev_tupRg2, wp_fmtS, wp_fmtI, wp_fstr, wp_tupRg, wx_reverse, wp_neg, wp_rng1, wp_rng2, evEs, ev_asg, ev_ex, ev_ret, ev_retn, ev_iff, ev_for, ev_pass, ev_brk, ev_cont, ev_nope, wp_no, evT, evAnd, evOr, evTA, evTO, evP, evC, wp_bnd, wp_ret, wp_opt, wp_see, wp_add, wp_sub, wx_mul, wx_fdiv, wx_mod, wx_addS, wx_addT, wx_idxT, wx_idxL, wx_int, wx_abs, wx_lenL, wx_lenT, wx_lenS, wx_strI, wx_tupT, wx_tupL, wx_listT, wx_listL, wx_listS, wx_slcT, wx_slcL, wx_append, wx_pop0, wx_joinL, wx_split, wx_find, wp_newL, wp_setL, then_nx, then_rt, then_bk, then_ct, fin_rt, fin_nx, asg_name, asg_tup, asgs_nil, asgs_cons, le_line, lt_line, cop_eq, cop_ne, cop_lt, cop_le, cop_gt, cop_ge, cop_in, cop_notin, cop_is0, cop_is1, cop_is2, cop_is3, cop_is4, cop_is5, eq_int, eq_bl, eq_str, tru_non, tru_bl, tru_int, tru_tup, tru_ref, tn_non, tn_bl, tn_int, tn_str, tn_tup, tn_ref, isTn, mt_append, mt_pop0, mt_pop, mt_reverse, mt_clear, mt_join, mt_split, mt_find, mt_startswith, mt_partition, wk_tup, wk_str, wk_ref,
    rdL_cons0, rdL_ro0, rdL_succ, rdM_cons0, rdM_succ, List.map_cons, List.map_nil, List.replicate_succ, List.replicate_zero, List.cons_append, List.nil_append, List.append_nil, List.append_assoc, rdL_at, rdL_at0, rdM_at, rdM_at0, set_at, set_at0, List.length_append, Nat.add_assoc, List.getElem?_cons_succ, List.getElem?_cons_zero, List.set_cons_succ, List.set_cons_zero, Nat.reduceSub, Nat.reduceAdd, Option.map_some, Option.bind_some, Option.some.injEq, exists_eq_left', exists_eq_left, exists_eq', exists_and_left, exists_const, D.int.injEq, D.ref.injEq, D.str.injEq, D.bl.injEq, D.tup.injEq, true_and, and_true, List.length_cons, List.length_nil, atI_lit, ixN_lit, Nat.reduceLT, Nat.reduceLeDiff, Nat.reduceEqDiff, Int.reduceLT, Int.reduceLE, Int.reduceEq, Nat.lt_irrefl, Nat.zero_lt_succ, Nat.reduceMul, Int.reduceNeg, Bool.false_eq_true, if_true, if_false, Nat.zero_add, nlit, eq_self, decide_true, decide_false, reduceIte, Bool.or_false, Bool.false_or, Bool.true_or, Bool.or_true, Bool.and_true, Bool.true_and, Bool.and_false, Bool.false_and, Bool.not_true, Bool.not_false, List.all_cons, List.all_nil, List.any_cons, List.any_nil, h0]
    refine (draw_ok h.draw hC hCl (by omega) (by omega)).mono ?_
    rintro _ _ ⟨l, rfl, hl, G2, rfl⟩
    try simp only [wp_cons, wp_nil, wx_asgi, ev_lit, ev_var, ev_gl, ev_tup, ev_lst, ev_bin, ev_neg, ev_cmp, ev_chain, ev_and, ev_or, ev_not, ev_ifx, ev_idx, ev_slc, ev_call, ev_blt, ev_isi, ev_isis, ev_mth, ev_lc, ei_val, ei_rng1, ei_rng2, ei_zip, ei_enum, wx_addL, ev_fmt, ev_fstr, ev_tupRg1, ev_tupRg2, wp_fmtS, wp_fmtI, wp_fstr, wp_tupRg, wx_reverse, wp_neg, wp_rng1, wp_rng2, evEs, ev_asg, ev_ex, ev_ret, ev_retn, ev_iff, ev_for, ev_pass, ev_brk, ev_cont, ev_nope, wp_no, evT, evAnd, evOr, evTA, evTO, evP, evC, wp_bnd, wp_ret, wp_opt, wp_see, wp_add, wp_sub, wx_mul, wx_fdiv, wx_mod, wx_addS, wx_addT, wx_idxT, wx_idxL, wx_int, wx_abs, wx_lenL, wx_lenT, wx_lenS, wx_strI, wx_tupT, wx_tupL, wx_listT, wx_listL, wx_listS, wx_slcT, wx_slcL, wx_append, wx_pop0, wx_joinL, wx_split, wx_find, wp_newL, wp_setL, then_nx, then_rt, then_bk, then_ct, fin_rt, fin_nx, asg_name, asg_tup, asgs_nil, asgs_cons, le_line, lt_line, cop_eq, cop_ne, cop_lt, cop_le, cop_gt, cop_ge, cop_in, cop_notin, cop_is0, cop_is1, cop_is2, cop_is3, cop_is4, cop_is5, eq_int, eq_bl, eq_str, tru_non, tru_bl, tru_int, tru_tup, tru_ref, tn_non, tn_bl, tn_int, tn_str, tn_tup, tn_ref, isTn, mt_append, mt_pop0, mt_pop, mt_reverse, mt_clear, mt_join, mt_split, mt_find, mt_startswith, mt_partition, wk_tup, wk_str, wk_ref,
    rdL_cons0, rdL_ro0, rdL_succ, rdM_cons0, rdM_succ, List.map_cons, List.map_nil, List.replicate_succ, List.replicate_zero, List.cons_append, List.nil_append, List.append_nil, List.append_assoc, rdL_at, rdL_at0, rdM_at, rdM_at0, set_at, set_at0, List.length_append, Nat.add_assoc, List.getElem?_cons_succ, List.getElem?_cons_zero, List.set_cons_succ, List.set_cons_zero, Nat.reduceSub, Nat.reduceAdd, Option.map_some, Option.bind_some, Option.some.injEq, exists_eq_left', exists_eq_left, exists_eq', exists_and_left, exists_const, D.int.injEq, D.ref.injEq, D.str.injEq, D.bl.injEq, D.tup.injEq, true_and, and_true, List.length_cons, List.length_nil, atI_lit, ixN_lit, Nat.reduceLT, Nat.reduceLeDiff, Nat.reduceEqDiff, Int.reduceLT, Int.reduceLE, Int.reduceEq, Nat.lt_irrefl, Nat.zero_lt_succ, Nat.reduceMul, Int.reduceNeg, Bool.false_eq_true, if_true, if_false, Nat.zero_add, nlit, eq_self, decide_true, decide_false, reduceIte, Bool.or_false, Bool.false_or, Bool.true_or, Bool.or_true, Bool.and_true, Bool.true_and, Bool.and_false, Bool.false_and, Bool.not_true, Bool.not_false, List.all_cons, List.all_nil, List.any_cons, List.any_nil]
    refine (draw_ok h.draw hC hCl (by omega) (by omega)).mono ?_
    rintro _ _ ⟨b, rfl, hb, G3, rfl⟩
    try simp only [wp_cons, wp_nil, wx_asgi, ev_lit, ev_var, ev_gl, ev_tup, ev_lst, ev_bin, ev_neg, ev_cmp, ev_chain, ev_and, ev_or, ev_not, ev_ifx, ev_idx, ev_slc, ev_call, ev_blt, ev_isi, ev_isis, ev_mth, ev_lc, ei_val, ei_rng1, ei_rng2, ei_zip, ei_enum, wx_addL, ev_fmt, ev_fstr, ev_tupRg1, ev_tupRg2, wp_fmtS, wp_fmtI, wp_fstr, wp_tupRg, wx_reverse, wp_neg, wp_rng1, wp_rng2, evEs, ev_asg, ev_ex, ev_ret, ev_retn, ev_iff, ev_for, ev_pass, ev_brk, ev_cont, ev_nope, wp_no, evT, evAnd, evOr, evTA, evTO, evP, evC, wp_bnd, wp_ret, wp_opt, wp_see, wp_add, wp_sub, wx_mul, wx_fdiv, wx_mod, wx_addS, wx_addT, wx_idxT, wx_idxL, wx_int, wx_abs, wx_lenL, wx_lenT, wx_lenS, wx_strI, wx_tupT, wx_tupL, wx_listT, wx_listL, wx_listS, wx_slcT, wx_slcL, wx_append, wx_pop0, wx_joinL, wx_split, wx_find, wp_newL, wp_setL, then_nx, then_rt, then_bk, then_ct, fin_rt, fin_nx, asg_name, asg_tup, asgs_nil, asgs_cons, le_line, lt_line, cop_eq, cop_ne, cop_lt, cop_le, cop_gt, cop_ge, cop_in, cop_notin, cop_is0, cop_is1, cop_is2, cop_is3, cop_is4, cop_is5, eq_int, eq_bl, eq_str, tru_non, tru_bl, tru_int, tru_tup, tru_ref, tn_non, tn_bl, tn_int, tn_str, tn_tup, tn_ref, isTn, mt_append, mt_pop0, mt_pop, mt_reverse, mt_clear, mt_join, mt_split, mt_find, mt_startswith, mt_partition, wk_tup, wk_str, wk_ref,
    rdL_cons0, rdL_ro0, rdL_succ, rdM_cons0, rdM_succ, List.map_cons, List.map_nil, List.replicate_succ, List.replicate_zero, List.cons_append, List.nil_append, List.append_nil, List.append_assoc, rdL_at, rdL_at0, rdM_at, rdM_at0, set_at, set_at0, List.length_append, Nat.add_assoc, List.getElem?_cons_succ, List.getElem?_cons_zero, List.set_cons_succ, List.set_cons_zero, Nat.reduceSub, Nat.reduceAdd, Option.map_some, Option.bind_some, Option.some.injEq, exists_eq_left', exists_eq_left, exists_eq', exists_and_left, exists_const, D.int.injEq, D.ref.injEq, D.str.injEq, D.bl.injEq, D.tup.injEq, true_and, and_true, List.length_cons, List.length_nil, atI_lit, ixN_lit, Nat.reduceLT, Nat.reduceLeDiff, Nat.reduceEqDiff, Int.reduceLT, Int.reduceLE, Int.reduceEq, Nat.lt_irrefl, Nat.zero_lt_succ, Nat.reduceMul, Int.reduceNeg, Bool.false_eq_true, if_true, if_false, Nat.zero_add, nlit, eq_self, decide_true, decide_false, reduceIte, Bool.or_false, Bool.false_or, Bool.true_or, Bool.or_true, Bool.and_true, Bool.true_and, Bool.and_false, Bool.false_and, Bool.not_true, Bool.not_false, List.all_cons, List.all_nil, List.any_cons, List.any_nil]
    refine ⟨by unfold inRng; rw [Bool.and_eq_true]; exact ⟨decide_eq_true (by omega), decide_eq_true (by omega)⟩, ?_⟩
    refine comp_drawR h.draw hC hCl (lo := b + 1) (m := (10 - (b + 1)).toNat) (by omega) (by omega) (by omega) (by omega) rfl ⟨by decide, by simp⟩ fun xs G4 n4 ha hlo hn4 => ?_
    simp only [wp_cons, wp_nil, wx_asgi, ev_lit, ev_var, ev_gl, ev_tup, ev_lst, ev_bin, ev_neg, ev_cmp, ev_chain, ev_and, ev_or, ev_not, ev_ifx, ev_idx, ev_slc, ev_call, ev_blt, ev_isi, ev_isis, ev_mth, ev_lc, ei_val, ei_rng1, ei_rng2, ei_zip, ei_enum, wx_addL, ev_fmt, ev_fstr, ev_tupRg1, ev_tupRg2, wp_fmtS, wp_fmtI, wp_fstr, wp_tupRg, wx_reverse, wp_neg, wp_rng1, wp_rng2, evEs, ev_asg, ev_ex, ev_ret, ev_retn, ev_iff, ev_for, ev_pass, ev_brk, ev_cont, ev_nope, wp_no, evT, evAnd, evOr, evTA, evTO, evP, evC, wp_bnd, wp_ret, wp_opt, wp_see, wp_add, wp_sub, wx_mul, wx_fdiv, wx_mod, wx_addS, wx_addT, wx_idxT, wx_idxL, wx_int, wx_abs, wx_lenL, wx_lenT, wx_lenS, wx_strI, wx_tupT, wx_tupL, wx_listT, wx_listL, wx_listS, wx_slcT, wx_slcL, wx_append, wx_pop0, wx_joinL, wx_split, wx_find, wp_newL, wp_setL, then_nx, then_rt, then_bk, then_ct, fin_rt, fin_nx, asg_name, asg_tup, asgs_nil, asgs_cons, le_line, lt_line, cop_eq, cop_ne, cop_lt, cop_le, cop_gt, cop_ge, cop_in, cop_notin, cop_is0, cop_is1, cop_is2, cop_is3, cop_is4, cop_is5, eq_int, eq_bl, eq_str, tru_non, tru_bl, tru_int, tru_tup, tru_ref, tn_non, tn_bl, tn_int, tn_str, tn_tup, tn_ref, isTn, mt_append, mt_pop0, mt_pop, mt_reverse, mt_clear, mt_join, mt_split, mt_find, mt_startswith, mt_partition, wk_tup, wk_str, wk_ref,
    rdL_cons0, rdL_ro0, rdL_succ, rdM_cons0, rdM_succ, List.map_cons, List.map_nil, List.replicate_succ, List.replicate_zero, List.cons_append, List.nil_append, List.append_nil, List.append_assoc, rdL_at, rdL_at0, rdM_at, rdM_at0, set_at, set_at0, List.length_append, Nat.add_assoc, List.getElem?_cons_succ, List.getElem?_cons_zero, List.set_cons_succ, List.set_cons_zero, Nat.reduceSub, Nat.reduceAdd, Option.map_some, Option.bind_some, Option.some.injEq, exists_eq_left', exists_eq_left, exists_eq', exists_and_left, exists_const, D.int.injEq, D.ref.injEq, D.str.injEq, D.bl.injEq, D.tup.injEq, true_and, and_true, List.length_cons, List.length_nil, atI_lit, ixN_lit, Nat.reduceLT, Nat.reduceLeDiff, Nat.reduceEqDiff, Int.reduceLT, Int.reduceLE, Int.reduceEq, Nat.lt_irrefl, Nat.zero_lt_succ, Nat.reduceMul, Int.reduceNeg, Bool.false_eq_true, if_true, if_false, Nat.zero_add, nlit, eq_self, decide_true, decide_false, reduceIte, Bool.or_false, Bool.false_or, Bool.true_or, Bool.or_true, Bool.and_true, Bool.true_and, Bool.and_false, Bool.false_and, Bool.not_true, Bool.not_false, List.all_cons, List.all_nil, List.any_cons, List.any_nil]
    have hle := ha.len
    have h10 : Asc 10 (b :: xs) := by
      refine ⟨List.pairwise_cons.mpr ⟨fun y hy => by have := hlo y hy; omega, ha.1⟩, fun y hy => ?_⟩
      rcases List.mem_cons.mp hy with rfl | hy
      · omega
      · have := ha.2 y hy; omega
    refine ⟨line1000 (by simp; have := h10.len; simp at this; omega), ?_⟩
    exact (hP _ _).mpr ⟨.send l (b :: xs), ⟨by omega, h10, by simp⟩, rfl, G4, n4, [.lst (xs.map .int), .lst [.int b], .lst (.int b :: xs.map .int)], by omega, by simp⟩
end
end My

/-! The law of runs. -/
namespace My
open PySem PySem.Spec PyProof.Rows L2
def Sg.p : Sg → PyData
  | .go r => .tuple [.str "do", .int r]
  | .send l os => .tuple [.str "send", .int l, .tuple (os.map .int)]
theorem toP_sg {S : Store} {f : Nat} (s : Sg) : toP S (f + 2) s.d = some s.p := by
  cases s with
  | go r =>
    have e : toP S (f + 1) (.str (Str.ofString "do")) = some (.str (Str.ofString "do")) := by simp only [toP, ok_do, if_true]
    have e2 : toP S (f + 1) (.int r) = some (.int r) := by simp only [toP]
    simp only [Sg.d, Sg.p, toP, allO, ok_do, if_true, e2, Option.map_some]
  | send l os =>
    have e2 : toP S (f + 1) (.int l) = some (.int l) := by simp only [toP]
    have e3 := toP_tupI (S := S) (f := f) os
    simp only [Sg.d, Sg.p, toP, allO, ok_send, if_true, e2, Option.map_some]
    rw [e3]
    rfl
theorem allO_sg {S : Store} {f : Nat} : ∀ ss : List Sg, allO (toP S (f + 2)) (ss.map Sg.d) = some (ss.map Sg.p)
  | [] => rfl
  | s :: ss => by simp only [List.map_cons, allO, toP_sg, allO_sg ss]
theorem eqvAll_ints : ∀ xs : List Int, PyData.eqvAll (xs.map .int) (xs.map .int) = true
  | [] => rfl
  | x :: xs => by simp only [List.map_cons, PyData.eqvAll, PyData.eqv, eqvAll_ints xs, beq_self_eq_true, Bool.and_self]
theorem eqvAll_sg : ∀ ss : List Sg, PyData.eqvAll (ss.map Sg.p) (ss.map Sg.p) = true
  | [] => rfl
  | s :: ss => by
    have e : PyData.eqv s.p s.p = true := by
      cases s with
      | go r => simp only [Sg.p, PyData.eqv, PyData.eqvAll, beq_self_eq_true, Bool.and_self]
      | send l os => simp only [Sg.p, PyData.eqv, PyData.eqvAll, beq_self_eq_true, Bool.and_self, eqvAll_ints]
    simp only [List.map_cons, PyData.eqvAll, eqvAll_sg ss, e, Bool.and_self]
theorem rdL_set_ne {S : Store} {i j : Nat} {o : Ob} (h : i ≠ j) : rdL (S.set j o) i = rdL S i := by
  unfold rdL; rw [List.getElem?_set_ne (Ne.symm h)]
theorem rdM_set {S : Store} {j : Nat} {xs : List D} (h : j < S.length) : rdM (S.set j (.lst xs)) j = some xs := by
  unfold rdM; rw [List.getElem?_set_self h]
theorem rdL_lt {S : Store} {j : Nat} {xs : List D} (h : rdL S j = some xs) : j < S.length := by
  by_cases hn : j < S.length
  · exact hn
  · unfold rdL at h
    rw [List.getElem?_eq_none (by omega)] at h; cases h
theorem rdM_app {S X : Store} {n : Nat} {xs : List D} (h : rdM S n = some xs) : rdM (S ++ X) n = some xs := by
  have hn := rdL_lt (rdM_rdL h)
  unfold rdM at h ⊢
  rw [List.getElem?_append_left hn]; exact h
theorem Gr.rdM {S S1 : Store} (h : Gr S S1) {n : Nat} {xs : List D} (e : rdM S n = some xs) : My.rdM S1 n = some xs := by
  obtain ⟨X, rfl⟩ := h
  exact rdM_app e
theorem Gr.len {S S1 : Store} (h : Gr S S1) : S.length ≤ S1.length := by
  obtain ⟨X, rfl⟩ := h
  simp
theorem mt_reverse' {n : Nat} {S : Store} : mthTy .reverse (.ref n) S = (rdL S n).map fun _ => () := rfl
section
variable {ds : List Df} {con : Str → Option D} {fuel k : Nat} {S : Store}
def tail69 : Ss :=
 (.cons (.asg (.name 4) (.mth (.lit (.str "; ")) .join (.cons (.lc (.call "_law_step_text" (.cons (.var 9) .nil)) (.name 9) (.val (.var 3)) .nil [("step", 9)]) .nil)))
 (.cons (.asg (.name 5) (.blt .list (.cons (.var 3) .nil)))
 (.cons (.iff (.or_ (.cons (.not_ (.call "_law_same" (.cons (.call "show_run" (.cons (.var 5) .nil)) (.cons (.var 4) .nil)))) (.cons (.cmp .ne (.var 5) (.var 3)) .nil))) (.cons (.ret (.lit (.bl false)))
 .nil) .nil)
 (.cons (.asg (.name 6) (.call "read_run" (.cons (.var 4) .nil)))
 (.cons (.iff (.not_ (.call "_law_same" (.cons (.var 6) (.cons (.var 3) .nil)))) (.cons (.ret (.lit (.bl false)))
 .nil) .nil)
 (.cons (.ex (.mth (.var 6) .append (.cons (.tup (.cons (.lit (.str "do")) (.cons (.lit (.int 0)) .nil))) .nil)))
 (.cons (.ex (.mth (.var 6) .reverse .nil))
 (.cons (.ret (.and_ (.cons (.call "_law_same" (.cons (.call "read_run" (.cons (.var 4) .nil)) (.cons (.var 3) .nil))) (.cons (.call "_law_same" (.cons (.call "show_run" (.cons (.var 5) .nil)) (.cons (.var 4) .nil))) .nil))))
 .nil))))))))
theorem tail69_ok (h : FT ds con) {j : Nat} {ss : List Sg} (ok : AllOk ss) (hl : ss.length ≤ 1000) (hr : rdL S j = some (ss.map Sg.d)) {a0 a1 a2 a7 : Option D} :
    Wp (evSs ⟨callD ds con fuel (k + 5), con, fuel⟩ tail69 [a0, a1, a2, some (.ref j), none, none, none, a7, none, none]) S (Fin fun a _ => a = .bl true) := by
  unfold tail69
  simp only [wp_cons, wp_nil, wx_asgi, ev_lit, ev_var, ev_gl, ev_tup, ev_lst, ev_bin, ev_neg, ev_cmp, ev_chain, ev_and, ev_or, ev_not, ev_ifx, ev_idx, ev_slc, ev_call, ev_blt, ev_isi, ev_isis, ev_mth, ev_lc, ei_val, ei_rng1, ei_rng2, ei_zip, ei_enum, wx_addL, ev_fmt, ev_fstr, ev_tupRg1, ev_tupRg2, wp_fmtS, wp_fmtI, wp_fstr, wp_tupRg, wx_reverse, wp_neg, wp_rng1, wp_rng2, evEs, ev_asg, ev_ex, ev_ret, ev_retn, ev_iff, ev_for, ev_pass, ev_brk, ev_cont, ev_nope, wp_no, evT, evAnd, evOr, evTA, evTO, evP, evC, wp_bnd, wp_ret, wp_opt, wp_see, wp_add, wp_sub, wx_mul, wx_fdiv, wx_mod, wx_addS, wx_addT, wx_idxT, wx_idxL, wx_int, wx_abs, wx_lenL, wx_lenT, wx_lenS, wx_strI, wx_tupT, wx_tupL, wx_listT, wx_listL, wx_listS, wx_slcT, wx_slcL, wx_append, wx_pop0, wx_joinL, wx_split, wx_find, wp_newL, wp_setL, then_nx, then_rt, then_bk, then_ct, fin_rt, fin_nx, asg_name, asg_tup, asgs_nil, asgs_cons, le_line, lt_line, cop_eq, cop_ne, cop_lt, cop_le, cop_gt, cop_ge, cop_in, cop_notin, cop_is0, cop_is1, cop_is2, cop_is3, cop_is4, cop_is5, eq_int, eq_bl, eq_str, tru_non, tru_bl, tru_int, tru_tup, tru_ref, tn_non, tn_bl, tn_int, tn_str, tn_tup, tn_ref, isTn, mt_append, mt_pop0, mt_pop, mt_reverse, mt_clear, mt_join, mt_split, mt_find, mt_startswith, mt_partition, wk_tup, wk_str, wk_ref,
    rdL_cons0, rdL_ro0, rdL_succ, rdM_cons0, rdM_succ, List.map_cons, List.map_nil, List.replicate_succ, List.replicate_zero, List.cons_append, List.nil_append, List.append_nil, List.append_assoc, rdL_at, rdL_at0, rdM_at, rdM_at0, set_at, set_at0, List.length_append, Nat.add_assoc, List.getElem?_cons_succ, List.getElem?_cons_zero, List.set_cons_succ, List.set_cons_zero, Nat.reduceSub, Nat.reduceAdd, Option.map_some, Option.bind_some, Option.some.injEq, exists_eq_left', exists_eq_left, exists_eq', exists_and_left, exists_const, D.int.injEq, D.ref.injEq, D.str.injEq, D.bl.injEq, D.tup.injEq, true_and, and_true, List.length_cons, List.length_nil, atI_lit, ixN_lit, Nat.reduceLT, Nat.reduceLeDiff, Nat.reduceEqDiff, Int.reduceLT, Int.reduceLE, Int.reduceEq, Nat.lt_irrefl, Nat.zero_lt_succ, Nat.reduceMul, Int.reduceNeg, Bool.false_eq_true, if_true, if_false, Nat.zero_add, nlit, eq_self, decide_true, decide_false, reduceIte, Bool.or_false, Bool.false_or, Bool.true_or, Bool.or_true, Bool.and_true, Bool.true_and, Bool.and_false, Bool.false_and, Bool.not_true, Bool.not_false, List.all_cons, List.all_nil, List.any_cons, List.any_nil, hr]
  refine comp_call (G := fun s => D.str s.t) (by simp) hr (line1000 hl) (fun s hs S => step_text_ok (k := k + 3) h (ok s hs)) fun S1 g1 => ?_
  rw [map_str]
  have hr1 : ∀ X, rdL (S1 ++ X) j = some (ss.map Sg.d) := fun X => rdL_app (g1.rdL hr)
  simp only [wp_cons, wp_nil, wx_asgi, ev_lit, ev_var, ev_gl, ev_tup, ev_lst, ev_bin, ev_neg, ev_cmp, ev_chain, ev_and, ev_or, ev_not, ev_ifx, ev_idx, ev_slc, ev_call, ev_blt, ev_isi, ev_isis, ev_mth, ev_lc, ei_val, ei_rng1, ei_rng2, ei_zip, ei_enum, wx_addL, ev_fmt, ev_fstr, ev_tupRg1, ev_tupRg2, wp_fmtS, wp_fmtI, wp_fstr, wp_tupRg, wx_reverse, wp_neg, wp_rng1, wp_rng2, evEs, ev_asg, ev_ex, ev_ret, ev_retn, ev_iff, ev_for, ev_pass, ev_brk, ev_cont, ev_nope, wp_no, evT, evAnd, evOr, evTA, evTO, evP, evC, wp_bnd, wp_ret, wp_opt, wp_see, wp_add, wp_sub, wx_mul, wx_fdiv, wx_mod, wx_addS, wx_addT, wx_idxT, wx_idxL, wx_int, wx_abs, wx_lenL, wx_lenT, wx_lenS, wx_strI, wx_tupT, wx_tupL, wx_listT, wx_listL, wx_listS, wx_slcT, wx_slcL, wx_append, wx_pop0, wx_joinL, wx_split, wx_find, wp_newL, wp_setL, then_nx, then_rt, then_bk, then_ct, fin_rt, fin_nx, asg_name, asg_tup, asgs_nil, asgs_cons, le_line, lt_line, cop_eq, cop_ne, cop_lt, cop_le, cop_gt, cop_ge, cop_in, cop_notin, cop_is0, cop_is1, cop_is2, cop_is3, cop_is4, cop_is5, eq_int, eq_bl, eq_str, tru_non, tru_bl, tru_int, tru_tup, tru_ref, tn_non, tn_bl, tn_int, tn_str, tn_tup, tn_ref, isTn, mt_append, mt_pop0, mt_pop, mt_reverse, mt_clear, mt_join, mt_split, mt_find, mt_startswith, mt_partition, wk_tup, wk_str, wk_ref,
    rdL_cons0, rdL_ro0, rdL_succ, rdM_cons0, rdM_succ, List.map_cons, List.map_nil, List.replicate_succ, List.replicate_zero, List.cons_append, List.nil_append, List.append_nil, List.append_assoc, rdL_at, rdL_at0, rdM_at, rdM_at0, set_at, set_at0, List.length_append, Nat.add_assoc, List.getElem?_cons_succ, List.getElem?_cons_zero, List.set_cons_succ, List.set_cons_zero, Nat.reduceSub, Nat.reduceAdd, Option.map_some, Option.bind_some, Option.some.injEq, exists_eq_left', exists_eq_left, exists_eq', exists_and_left, exists_const, D.int.injEq, D.ref.injEq, D.str.injEq, D.bl.injEq, D.tup.injEq, true_and, and_true, List.length_cons, List.length_nil, atI_lit, ixN_lit, Nat.reduceLT, Nat.reduceLeDiff, Nat.reduceEqDiff, Int.reduceLT, Int.reduceLE, Int.reduceEq, Nat.lt_irrefl, Nat.zero_lt_succ, Nat.reduceMul, Int.reduceNeg, Bool.false_eq_true, if_true, if_false, Nat.zero_add, nlit, eq_self, decide_true, decide_false, reduceIte, Bool.or_false, Bool.false_or, Bool.true_or, Bool.or_true, Bool.and_true, Bool.true_and, Bool.and_false, Bool.false_and, Bool.not_true, Bool.not_false, List.all_cons, List.all_nil, List.any_cons, List.any_nil, hr1]
  refine ⟨_, strsOf_map _, run_join ok hl, ?_⟩
  have e0 : Str.join (Str.ofString "; ") (ss.map Sg.t) = runT ss := rfl
  rw [e0]
  obtain ⟨S2, hS2⟩ : ∃ S2, S2 = S1 ++ [Ob.lst ((ss.map Sg.t).map D.str), Ob.lst (ss.map Sg.d)] := ⟨_, rfl⟩
  have hj2 : rdL S2 j = some (ss.map Sg.d) := by rw [hS2]; exact hr1 _
  have hl2 : rdL S2 (S1.length + 1) = some (ss.map Sg.d) := by rw [hS2]; simp only [wp_cons, wp_nil, wx_asgi, ev_lit, ev_var, ev_gl, ev_tup, ev_lst, ev_bin, ev_neg, ev_cmp, ev_chain, ev_and, ev_or, ev_not, ev_ifx, ev_idx, ev_slc, ev_call, ev_blt, ev_isi, ev_isis, ev_mth, ev_lc, ei_val, ei_rng1, ei_rng2, ei_zip, ei_enum, wx_addL, ev_fmt, ev_fstr, ev_tupRg1, ev_tupRg2, wp_fmtS, wp_fmtI, wp_fstr, wp_tupRg, wx_reverse, wp_neg, wp_rng1, wp_rng2, evEs, ev_asg, ev_ex, ev_ret, ev_retn, ev_iff, ev_for, ev_pass, ev_brk, ev_cont, ev_nope, wp_no, evT, evAnd, evOr, evTA, evTO, evP, evC, wp_bnd, wp_ret, wp_opt, wp_see, wp_add, wp_sub, wx_mul, wx_fdiv, wx_mod, wx_addS, wx_addT, wx_idxT, wx_idxL, wx_int, wx_abs, wx_lenL, wx_lenT, wx_lenS, wx_strI, wx_tupT, wx_tupL, wx_listT, wx_listL, wx_listS, wx_slcT, wx_slcL, wx_append, wx_pop0, wx_joinL, wx_split, wx_find, wp_newL, wp_setL, then_nx, then_rt, then_bk, then_ct, fin_rt, fin_nx, asg_name, asg_tup, asgs_nil, asgs_cons, le_line, lt_line, cop_eq, cop_ne, cop_lt, cop_le, cop_gt, cop_ge, cop_in, cop_notin, cop_is0, cop_is1, cop_is2, cop_is3, cop_is4, cop_is5, eq_int, eq_bl, eq_str, tru_non, tru_bl, tru_int, tru_tup, tru_ref, tn_non, tn_bl, tn_int, tn_str, tn_tup, tn_ref, isTn, mt_append, mt_pop0, mt_pop, mt_reverse, mt_clear, mt_join, mt_split, mt_find, mt_startswith, mt_partition, wk_tup, wk_str, wk_ref,
    rdL_cons0, rdL_ro0, rdL_succ, rdM_cons0, rdM_succ, List.map_cons, List.map_nil, List.replicate_succ, List.replicate_zero, List.cons_append, List.nil_append, List.append_nil, List.append_assoc, rdL_at, rdL_at0, rdM_at, rdM_at0, set_at, set_at0, List.length_append, Nat.add_assoc, List.getElem?_cons_succ, List.getElem?_cons_zero, List.set_cons_succ, List.set_cons_zero, Nat.reduceSub, Nat.reduceAdd, Option.map_some, Option.bind_some, Option.some.injEq, exists_eq_left', exists_eq_left, exists_eq', exists_and_left, exists_const, D.int.injEq, D.ref.injEq, D.str.injEq, D.bl.injEq, D.tup.injEq, true_and, and_true, List.length_cons, List.length_nil, atI_lit, ixN_lit, Nat.reduceLT, Nat.reduceLeDiff, Nat.reduceEqDiff, Int.reduceLT, Int.reduceLE, Int.reduceEq, Nat.lt_irrefl, Nat.zero_lt_succ, Nat.reduceMul, Int.reduceNeg, Bool.false_eq_true, if_true, if_false, Nat.zero_add, nlit, eq_self, decide_true, decide_false, reduceIte, Bool.or_false, Bool.false_or, Bool.true_or, Bool.or_true, Bool.and_true, Bool.true_and, Bool.and_false, Bool.false_and, Bool.not_true, Bool.not_false, List.all_cons, List.all_nil, List.any_cons, List.any_nil]
  rw [← hS2]
  generalize S1.length + 1 = jl at hl2 ⊢
  refine (show_run_ok (k := k + 2) h ok hl hl2).to fun S3 g3 => ?_
  refine (same_ok h.same 0 (k := k + 4) (.str _)).to fun S4 g4 => ?_
  have hj4 := (g3.trans g4).rdL hj2
  have hl4 := (g3.trans g4).rdL hl2
  have e1 : eqF S4 (.ref jl) (.ref j) = some true := by
    rw [eq_ref hl4 hj4 (allO_sg (f := 13) ss) (allO_sg (f := 13) ss), eqvAll_sg]
  simp only [wp_cons, wp_nil, wx_asgi, ev_lit, ev_var, ev_gl, ev_tup, ev_lst, ev_bin, ev_neg, ev_cmp, ev_chain, ev_and, ev_or, ev_not, ev_ifx, ev_idx, ev_slc, ev_call, ev_blt, ev_isi, ev_isis, ev_mth, ev_lc, ei_val, ei_rng1, ei_rng2, ei_zip, ei_enum, wx_addL, ev_fmt, ev_fstr, ev_tupRg1, ev_tupRg2, wp_fmtS, wp_fmtI, wp_fstr, wp_tupRg, wx_reverse, wp_neg, wp_rng1, wp_rng2, evEs, ev_asg, ev_ex, ev_ret, ev_retn, ev_iff, ev_for, ev_pass, ev_brk, ev_cont, ev_nope, wp_no, evT, evAnd, evOr, evTA, evTO, evP, evC, wp_bnd, wp_ret, wp_opt, wp_see, wp_add, wp_sub, wx_mul, wx_fdiv, wx_mod, wx_addS, wx_addT, wx_idxT, wx_idxL, wx_int, wx_abs, wx_lenL, wx_lenT, wx_lenS, wx_strI, wx_tupT, wx_tupL, wx_listT, wx_listL, wx_listS, wx_slcT, wx_slcL, wx_append, wx_pop0, wx_joinL, wx_split, wx_find, wp_newL, wp_setL, then_nx, then_rt, then_bk, then_ct, fin_rt, fin_nx, asg_name, asg_tup, asgs_nil, asgs_cons, le_line, lt_line, cop_eq, cop_ne, cop_lt, cop_le, cop_gt, cop_ge, cop_in, cop_notin, cop_is0, cop_is1, cop_is2, cop_is3, cop_is4, cop_is5, eq_int, eq_bl, eq_str, tru_non, tru_bl, tru_int, tru_tup, tru_ref, tn_non, tn_bl, tn_int, tn_str, tn_tup, tn_ref, isTn, mt_append, mt_pop0, mt_pop, mt_reverse, mt_clear, mt_join, mt_split, mt_find, mt_startswith, mt_partition, wk_tup, wk_str, wk_ref,
    rdL_cons0, rdL_ro0, rdL_succ, rdM_cons0, rdM_succ, List.map_cons, List.map_nil, List.replicate_succ, List.replicate_zero, List.cons_append, List.nil_append, List.append_nil, List.append_assoc, rdL_at, rdL_at0, rdM_at, rdM_at0, set_at, set_at0, List.length_append, Nat.add_assoc, List.getElem?_cons_succ, List.getElem?_cons_zero, List.set_cons_succ, List.set_cons_zero, Nat.reduceSub, Nat.reduceAdd, Option.map_some, Option.bind_some, Option.some.injEq, exists_eq_left', exists_eq_left, exists_eq', exists_and_left, exists_const, D.int.injEq, D.ref.injEq, D.str.injEq, D.bl.injEq, D.tup.injEq, true_and, and_true, List.length_cons, List.length_nil, atI_lit, ixN_lit, Nat.reduceLT, Nat.reduceLeDiff, Nat.reduceEqDiff, Int.reduceLT, Int.reduceLE, Int.reduceEq, Nat.lt_irrefl, Nat.zero_lt_succ, Nat.reduceMul, Int.reduceNeg, Bool.false_eq_true, if_true, if_false, Nat.zero_add, nlit, eq_self, decide_true, decide_false, reduceIte, Bool.or_false, Bool.false_or, Bool.true_or, Bool.or_true, Bool.and_true, Bool.true_and, Bool.and_false, Bool.false_and, Bool.not_true, Bool.not_false, List.all_cons, List.all_nil, List.any_cons, List.any_nil, e1]
  refine (read_run_ok (k := k) h ok hl).mono ?_
  rintro _ S5 ⟨j2, rfl, hle, g5, hm5⟩
  try simp only [wp_cons, wp_nil, wx_asgi, ev_lit, ev_var, ev_gl, ev_tup, ev_lst, ev_bin, ev_neg, ev_cmp, ev_chain, ev_and, ev_or, ev_not, ev_ifx, ev_idx, ev_slc, ev_call, ev_blt, ev_isi, ev_isis, ev_mth, ev_lc, ei_val, ei_rng1, ei_rng2, ei_zip, ei_enum, wx_addL, ev_fmt, ev_fstr, ev_tupRg1, ev_tupRg2, wp_fmtS, wp_fmtI, wp_fstr, wp_tupRg, wx_reverse, wp_neg, wp_rng1, wp_rng2, evEs, ev_asg, ev_ex, ev_ret, ev_retn, ev_iff, ev_for, ev_pass, ev_brk, ev_cont, ev_nope, wp_no, evT, evAnd, evOr, evTA, evTO, evP, evC, wp_bnd, wp_ret, wp_opt, wp_see, wp_add, wp_sub, wx_mul, wx_fdiv, wx_mod, wx_addS, wx_addT, wx_idxT, wx_idxL, wx_int, wx_abs, wx_lenL, wx_lenT, wx_lenS, wx_strI, wx_tupT, wx_tupL, wx_listT, wx_listL, wx_listS, wx_slcT, wx_slcL, wx_append, wx_pop0, wx_joinL, wx_split, wx_find, wp_newL, wp_setL, then_nx, then_rt, then_bk, then_ct, fin_rt, fin_nx, asg_name, asg_tup, asgs_nil, asgs_cons, le_line, lt_line, cop_eq, cop_ne, cop_lt, cop_le, cop_gt, cop_ge, cop_in, cop_notin, cop_is0, cop_is1, cop_is2, cop_is3, cop_is4, cop_is5, eq_int, eq_bl, eq_str, tru_non, tru_bl, tru_int, tru_tup, tru_ref, tn_non, tn_bl, tn_int, tn_str, tn_tup, tn_ref, isTn, mt_append, mt_pop0, mt_pop, mt_reverse, mt_clear, mt_join, mt_split, mt_find, mt_startswith, mt_partition, wk_tup, wk_str, wk_ref,
    rdL_cons0, rdL_ro0, rdL_succ, rdM_cons0, rdM_succ, List.map_cons, List.map_nil, List.replicate_succ, List.replicate_zero, List.cons_append, List.nil_append, List.append_nil, List.append_assoc, rdL_at, rdL_at0, rdM_at, rdM_at0, set_at, set_at0, List.length_append, Nat.add_assoc, List.getElem?_cons_succ, List.getElem?_cons_zero, List.set_cons_succ, List.set_cons_zero, Nat.reduceSub, Nat.reduceAdd, Option.map_some, Option.bind_some, Option.some.injEq, exists_eq_left', exists_eq_left, exists_eq', exists_and_left, exists_const, D.int.injEq, D.ref.injEq, D.str.injEq, D.bl.injEq, D.tup.injEq, true_and, and_true, List.length_cons, List.length_nil, atI_lit, ixN_lit, Nat.reduceLT, Nat.reduceLeDiff, Nat.reduceEqDiff, Int.reduceLT, Int.reduceLE, Int.reduceEq, Nat.lt_irrefl, Nat.zero_lt_succ, Nat.reduceMul, Int.reduceNeg, Bool.false_eq_true, if_true, if_false, Nat.zero_add, nlit, eq_self, decide_true, decide_false, reduceIte, Bool.or_false, Bool.false_or, Bool.true_or, Bool.or_true, Bool.and_true, Bool.true_and, Bool.and_false, Bool.false_and, Bool.not_true, Bool.not_false, List.all_cons, List.all_nil, List.any_cons, List.any_nil]
  refine (same_list (k := k + 1) (n := 2) h.same (xs := ss.map Sg.d) (fun x hx => ?_) (rdM_rdL hm5) (g5.rdL hj4)).to fun S6 g6 => ?_
  · obtain ⟨s, _, rfl⟩ := List.mem_map.mp hx
    exact flt_sg s
  have hm6 := g6.rdM hm5
  have hr6 := rdM_rdL hm6
  have hj6 := (g5.trans g6).rdL hj4
  have hl6 := (g5.trans g6).rdL hl4
  have hnj : j ≠ j2 := by have := rdL_lt hj4; omega
  have hnl : jl ≠ j2 := by have := rdL_lt hl4; omega
  have hlt6 := rdL_lt hr6
  simp only [wp_cons, wp_nil, wx_asgi, ev_lit, ev_var, ev_gl, ev_tup, ev_lst, ev_bin, ev_neg, ev_cmp, ev_chain, ev_and, ev_or, ev_not, ev_ifx, ev_idx, ev_slc, ev_call, ev_blt, ev_isi, ev_isis, ev_mth, ev_lc, ei_val, ei_rng1, ei_rng2, ei_zip, ei_enum, wx_addL, ev_fmt, ev_fstr, ev_tupRg1, ev_tupRg2, wp_fmtS, wp_fmtI, wp_fstr, wp_tupRg, wx_reverse, wp_neg, wp_rng1, wp_rng2, evEs, ev_asg, ev_ex, ev_ret, ev_retn, ev_iff, ev_for, ev_pass, ev_brk, ev_cont, ev_nope, wp_no, evT, evAnd, evOr, evTA, evTO, evP, evC, wp_bnd, wp_ret, wp_opt, wp_see, wp_add, wp_sub, wx_mul, wx_fdiv, wx_mod, wx_addS, wx_addT, wx_idxT, wx_idxL, wx_int, wx_abs, wx_lenL, wx_lenT, wx_lenS, wx_strI, wx_tupT, wx_tupL, wx_listT, wx_listL, wx_listS, wx_slcT, wx_slcL, wx_append, wx_pop0, wx_joinL, wx_split, wx_find, wp_newL, wp_setL, then_nx, then_rt, then_bk, then_ct, fin_rt, fin_nx, asg_name, asg_tup, asgs_nil, asgs_cons, le_line, lt_line, cop_eq, cop_ne, cop_lt, cop_le, cop_gt, cop_ge, cop_in, cop_notin, cop_is0, cop_is1, cop_is2, cop_is3, cop_is4, cop_is5, eq_int, eq_bl, eq_str, tru_non, tru_bl, tru_int, tru_tup, tru_ref, tn_non, tn_bl, tn_int, tn_str, tn_tup, tn_ref, isTn, mt_append, mt_pop0, mt_pop, mt_reverse, mt_clear, mt_join, mt_split, mt_find, mt_startswith, mt_partition, wk_tup, wk_str, wk_ref,
    rdL_cons0, rdL_ro0, rdL_succ, rdM_cons0, rdM_succ, List.map_cons, List.map_nil, List.replicate_succ, List.replicate_zero, List.cons_append, List.nil_append, List.append_nil, List.append_assoc, rdL_at, rdL_at0, rdM_at, rdM_at0, set_at, set_at0, List.length_append, Nat.add_assoc, List.getElem?_cons_succ, List.getElem?_cons_zero, List.set_cons_succ, List.set_cons_zero, Nat.reduceSub, Nat.reduceAdd, Option.map_some, Option.bind_some, Option.some.injEq, exists_eq_left', exists_eq_left, exists_eq', exists_and_left, exists_const, D.int.injEq, D.ref.injEq, D.str.injEq, D.bl.injEq, D.tup.injEq, true_and, and_true, List.length_cons, List.length_nil, atI_lit, ixN_lit, Nat.reduceLT, Nat.reduceLeDiff, Nat.reduceEqDiff, Int.reduceLT, Int.reduceLE, Int.reduceEq, Nat.lt_irrefl, Nat.zero_lt_succ, Nat.reduceMul, Int.reduceNeg, Bool.false_eq_true, if_true, if_false, Nat.zero_add, nlit, eq_self, decide_true, decide_false, reduceIte, Bool.or_false, Bool.false_or, Bool.true_or, Bool.or_true, Bool.and_true, Bool.true_and, Bool.and_false, Bool.false_and, Bool.not_true, Bool.not_false, List.all_cons, List.all_nil, List.any_cons, List.any_nil, hr6, hm6]
  refine ⟨Nat.lt_of_le_of_lt (by simp; exact hl) (by decide : 1000 < sizeLine), ?_⟩
  have hm7 : ∀ xs, rdM (S6.set j2 (.lst xs)) j2 = some xs := fun xs => rdM_set hlt6
  have hr7 : ∀ xs, rdL (S6.set j2 (.lst xs)) j2 = some xs := fun xs => rdM_rdL (hm7 xs)
  simp only [wp_cons, wp_nil, wx_asgi, ev_lit, ev_var, ev_gl, ev_tup, ev_lst, ev_bin, ev_neg, ev_cmp, ev_chain, ev_and, ev_or, ev_not, ev_ifx, ev_idx, ev_slc, ev_call, ev_blt, ev_isi, ev_isis, ev_mth, ev_lc, ei_val, ei_rng1, ei_rng2, ei_zip, ei_enum, wx_addL, ev_fmt, ev_fstr, ev_tupRg1, ev_tupRg2, wp_fmtS, wp_fmtI, wp_fstr, wp_tupRg, wx_reverse, wp_neg, wp_rng1, wp_rng2, evEs, ev_asg, ev_ex, ev_ret, ev_retn, ev_iff, ev_for, ev_pass, ev_brk, ev_cont, ev_nope, wp_no, evT, evAnd, evOr, evTA, evTO, evP, evC, wp_bnd, wp_ret, wp_opt, wp_see, wp_add, wp_sub, wx_mul, wx_fdiv, wx_mod, wx_addS, wx_addT, wx_idxT, wx_idxL, wx_int, wx_abs, wx_lenL, wx_lenT, wx_lenS, wx_strI, wx_tupT, wx_tupL, wx_listT, wx_listL, wx_listS, wx_slcT, wx_slcL, wx_append, wx_pop0, wx_joinL, wx_split, wx_find, wp_newL, wp_setL, then_nx, then_rt, then_bk, then_ct, fin_rt, fin_nx, asg_name, asg_tup, asgs_nil, asgs_cons, le_line, lt_line, cop_eq, cop_ne, cop_lt, cop_le, cop_gt, cop_ge, cop_in, cop_notin, cop_is0, cop_is1, cop_is2, cop_is3, cop_is4, cop_is5, eq_int, eq_bl, eq_str, tru_non, tru_bl, tru_int, tru_tup, tru_ref, tn_non, tn_bl, tn_int, tn_str, tn_tup, tn_ref, isTn, mt_append, mt_pop0, mt_pop, mt_reverse, mt_clear, mt_join, mt_split, mt_find, mt_startswith, mt_partition, wk_tup, wk_str, wk_ref,
    rdL_cons0, rdL_ro0, rdL_succ, rdM_cons0, rdM_succ, List.map_cons, List.map_nil, List.replicate_succ, List.replicate_zero, List.cons_append, List.nil_append, List.append_nil, List.append_assoc, rdL_at, rdL_at0, rdM_at, rdM_at0, set_at, set_at0, List.length_append, Nat.add_assoc, List.getElem?_cons_succ, List.getElem?_cons_zero, List.set_cons_succ, List.set_cons_zero, Nat.reduceSub, Nat.reduceAdd, Option.map_some, Option.bind_some, Option.some.injEq, exists_eq_left', exists_eq_left, exists_eq', exists_and_left, exists_const, D.int.injEq, D.ref.injEq, D.str.injEq, D.bl.injEq, D.tup.injEq, true_and, and_true, List.length_cons, List.length_nil, atI_lit, ixN_lit, Nat.reduceLT, Nat.reduceLeDiff, Nat.reduceEqDiff, Int.reduceLT, Int.reduceLE, Int.reduceEq, Nat.lt_irrefl, Nat.zero_lt_succ, Nat.reduceMul, Int.reduceNeg, Bool.false_eq_true, if_true, if_false, Nat.zero_add, nlit, eq_self, decide_true, decide_false, reduceIte, Bool.or_false, Bool.false_or, Bool.true_or, Bool.or_true, Bool.and_true, Bool.true_and, Bool.and_false, Bool.false_and, Bool.not_true, Bool.not_false, List.all_cons, List.all_nil, List.any_cons, List.any_nil, hm7, hr7]
  have hj8 : ∀ o o', rdL ((S6.set j2 o).set j2 o') j = some (ss.map Sg.d) := fun o o' => by rw [rdL_set_ne hnj, rdL_set_ne hnj]; exact hj6
  have hl8 : ∀ o o', rdL ((S6.set j2 o).set j2 o') jl = some (ss.map Sg.d) := fun o o' => by rw [rdL_set_ne hnl, rdL_set_ne hnl]; exact hl6
  refine (read_run_ok (k := k) h ok hl).mono ?_
  rintro _ S9 ⟨j3, rfl, hle3, g9, hm9⟩
  refine (same_list (k := k + 1) (n := 2) h.same (xs := ss.map Sg.d) (fun x hx => ?_) (rdM_rdL hm9) (g9.rdL (hj8 _ _))).to fun S10 g10 => ?_
  · obtain ⟨s, _, rfl⟩ := List.mem_map.mp hx
    exact flt_sg s
  simp only [wp_cons, wp_nil, wx_asgi, ev_lit, ev_var, ev_gl, ev_tup, ev_lst, ev_bin, ev_neg, ev_cmp, ev_chain, ev_and, ev_or, ev_not, ev_ifx, ev_idx, ev_slc, ev_call, ev_blt, ev_isi, ev_isis, ev_mth, ev_lc, ei_val, ei_rng1, ei_rng2, ei_zip, ei_enum, wx_addL, ev_fmt, ev_fstr, ev_tupRg1, ev_tupRg2, wp_fmtS, wp_fmtI, wp_fstr, wp_tupRg, wx_reverse, wp_neg, wp_rng1, wp_rng2, evEs, ev_asg, ev_ex, ev_ret, ev_retn, ev_iff, ev_for, ev_pass, ev_brk, ev_cont, ev_nope, wp_no, evT, evAnd, evOr, evTA, evTO, evP, evC, wp_bnd, wp_ret, wp_opt, wp_see, wp_add, wp_sub, wx_mul, wx_fdiv, wx_mod, wx_addS, wx_addT, wx_idxT, wx_idxL, wx_int, wx_abs, wx_lenL, wx_lenT, wx_lenS, wx_strI, wx_tupT, wx_tupL, wx_listT, wx_listL, wx_listS, wx_slcT, wx_slcL, wx_append, wx_pop0, wx_joinL, wx_split, wx_find, wp_newL, wp_setL, then_nx, then_rt, then_bk, then_ct, fin_rt, fin_nx, asg_name, asg_tup, asgs_nil, asgs_cons, le_line, lt_line, cop_eq, cop_ne, cop_lt, cop_le, cop_gt, cop_ge, cop_in, cop_notin, cop_is0, cop_is1, cop_is2, cop_is3, cop_is4, cop_is5, eq_int, eq_bl, eq_str, tru_non, tru_bl, tru_int, tru_tup, tru_ref, tn_non, tn_bl, tn_int, tn_str, tn_tup, tn_ref, isTn, mt_append, mt_pop0, mt_pop, mt_reverse, mt_clear, mt_join, mt_split, mt_find, mt_startswith, mt_partition, wk_tup, wk_str, wk_ref,
    rdL_cons0, rdL_ro0, rdL_succ, rdM_cons0, rdM_succ, List.map_cons, List.map_nil, List.replicate_succ, List.replicate_zero, List.cons_append, List.nil_append, List.append_nil, List.append_assoc, rdL_at, rdL_at0, rdM_at, rdM_at0, set_at, set_at0, List.length_append, Nat.add_assoc, List.getElem?_cons_succ, List.getElem?_cons_zero, List.set_cons_succ, List.set_cons_zero, Nat.reduceSub, Nat.reduceAdd, Option.map_some, Option.bind_some, Option.some.injEq, exists_eq_left', exists_eq_left, exists_eq', exists_and_left, exists_const, D.int.injEq, D.ref.injEq, D.str.injEq, D.bl.injEq, D.tup.injEq, true_and, and_true, List.length_cons, List.length_nil, atI_lit, ixN_lit, Nat.reduceLT, Nat.reduceLeDiff, Nat.reduceEqDiff, Int.reduceLT, Int.reduceLE, Int.reduceEq, Nat.lt_irrefl, Nat.zero_lt_succ, Nat.reduceMul, Int.reduceNeg, Bool.false_eq_true, if_true, if_false, Nat.zero_add, nlit, eq_self, decide_true, decide_false, reduceIte, Bool.or_false, Bool.false_or, Bool.true_or, Bool.or_true, Bool.and_true, Bool.true_and, Bool.and_false, Bool.false_and, Bool.not_true, Bool.not_false, List.all_cons, List.all_nil, List.any_cons, List.any_nil]
  refine (show_run_ok (k := k + 2) h ok hl ((g9.trans g10).rdL (hl8 _ _))).to fun S11 g11 => ?_
  refine (same_ok h.same 0 (k := k + 4) (.str _)).to fun S12 g12 => ?_
  try simp only [wp_cons, wp_nil, wx_asgi, ev_lit, ev_var, ev_gl, ev_tup, ev_lst, ev_bin, ev_neg, ev_cmp, ev_chain, ev_and, ev_or, ev_not, ev_ifx, ev_idx, ev_slc, ev_call, ev_blt, ev_isi, ev_isis, ev_mth, ev_lc, ei_val, ei_rng1, ei_rng2, ei_zip, ei_enum, wx_addL, ev_fmt, ev_fstr, ev_tupRg1, ev_tupRg2, wp_fmtS, wp_fmtI, wp_fstr, wp_tupRg, wx_reverse, wp_neg, wp_rng1, wp_rng2, evEs, ev_asg, ev_ex, ev_ret, ev_retn, ev_iff, ev_for, ev_pass, ev_brk, ev_cont, ev_nope, wp_no, evT, evAnd, evOr, evTA, evTO, evP, evC, wp_bnd, wp_ret, wp_opt, wp_see, wp_add, wp_sub, wx_mul, wx_fdiv, wx_mod, wx_addS, wx_addT, wx_idxT, wx_idxL, wx_int, wx_abs, wx_lenL, wx_lenT, wx_lenS, wx_strI, wx_tupT, wx_tupL, wx_listT, wx_listL, wx_listS, wx_slcT, wx_slcL, wx_append, wx_pop0, wx_joinL, wx_split, wx_find, wp_newL, wp_setL, then_nx, then_rt, then_bk, then_ct, fin_rt, fin_nx, asg_name, asg_tup, asgs_nil, asgs_cons, le_line, lt_line, cop_eq, cop_ne, cop_lt, cop_le, cop_gt, cop_ge, cop_in, cop_notin, cop_is0, cop_is1, cop_is2, cop_is3, cop_is4, cop_is5, eq_int, eq_bl, eq_str, tru_non, tru_bl, tru_int, tru_tup, tru_ref, tn_non, tn_bl, tn_int, tn_str, tn_tup, tn_ref, isTn, mt_append, mt_pop0, mt_pop, mt_reverse, mt_clear, mt_join, mt_split, mt_find, mt_startswith, mt_partition, wk_tup, wk_str, wk_ref,
    rdL_cons0, rdL_ro0, rdL_succ, rdM_cons0, rdM_succ, List.map_cons, List.map_nil, List.replicate_succ, List.replicate_zero, List.cons_append, List.nil_append, List.append_nil, List.append_assoc, rdL_at, rdL_at0, rdM_at, rdM_at0, set_at, set_at0, List.length_append, Nat.add_assoc, List.getElem?_cons_succ, List.getElem?_cons_zero, List.set_cons_succ, List.set_cons_zero, Nat.reduceSub, Nat.reduceAdd, Option.map_some, Option.bind_some, Option.some.injEq, exists_eq_left', exists_eq_left, exists_eq', exists_and_left, exists_const, D.int.injEq, D.ref.injEq, D.str.injEq, D.bl.injEq, D.tup.injEq, true_and, and_true, List.length_cons, List.length_nil, atI_lit, ixN_lit, Nat.reduceLT, Nat.reduceLeDiff, Nat.reduceEqDiff, Int.reduceLT, Int.reduceLE, Int.reduceEq, Nat.lt_irrefl, Nat.zero_lt_succ, Nat.reduceMul, Int.reduceNeg, Bool.false_eq_true, if_true, if_false, Nat.zero_add, nlit, eq_self, decide_true, decide_false, reduceIte, Bool.or_false, Bool.false_or, Bool.true_or, Bool.or_true, Bool.and_true, Bool.true_and, Bool.and_false, Bool.false_and, Bool.not_true, Bool.not_false, List.all_cons, List.all_nil, List.any_cons, List.any_nil]
end
end My

/-! Runs as texts: the law. -/
namespace My
open PySem PySem.Spec PyProof.Rows L2
theorem wp_iteL {α : Type} {c : Bool} {m n : M α} {S : Store} {Q : α → Store → Prop} (h1 : c = true → Wp m S Q) (h2 : c = false → Wp n S Q) : Wp (if c = true then m else n) S Q := by
  cases c
  · exact h2 rfl
  · exact h1 rfl
theorem law69 {ds : List Df} {con : Str → Option D} {fuel k : Nat} (h : FT ds con) {dl : Df} (hl : FD ds dl) (hn : dl.name = Str.ofString "law" ∧ dl.np = 1 ∧ dl.nn = 10)
    (hb : dl.body = (.cons (.asg (.name 1) (.call "_law_pool" (.cons (.var 0) .nil)))
 (.cons (.asg (.name 2) (.call "_law_draw" (.cons (.var 1) (.cons (.lit (.int 41)) .nil))))
 (.cons (.asg (.name 3) (.lc (.call "_law_any_step" (.cons (.var 1) .nil)) (.name 8) (.rng1 (.var 2)) .nil [("k", 8)]))
 (.cons (.iff (.cmp .eq (.call "_law_draw" (.cons (.var 1) (.cons (.lit (.int 8)) .nil))) (.lit (.int 0))) (.cons (.asg (.name 7) (.call "_law_draw" (.cons (.var 1) (.cons (.bin .sub (.lit (.int 1001)) (.var 2)) .nil))))
 (.cons (.asg (.name 3) (.bin .add (.var 3) (.lc (.tup (.cons (.lit (.str "do")) (.cons (.bin .fdiv (.var 2) (.lit (.int 5))) .nil))) (.name 8) (.rng1 (.var 7)) .nil [("k", 8)])))
 .nil)) .nil) tail69)))))
    {ns : List Int} (hns : ns.length ≤ 63) :
    Wp (callD ds con fuel (k + 6) "law" [.ref 0]) [.ro (ns.map .int)] fun a _ => a = .bl true := by
  refine wp_call hl hn.1.symm (by rw [hn.2.1]; rfl) ?_
  rw [hb, hn.2.1, hn.2.2]
  obtain ⟨T, hT⟩ : ∃ T, T = tail69 := ⟨_, rfl⟩
  have tl : ∀ {S : Store} {j : Nat} {ss : List Sg} {a0 a1 a2 a7 : Option D}, AllOk ss → ss.length ≤ 1000 → rdL S j = some (ss.map Sg.d) → Wp (evSs ⟨callD ds con fuel (k + 5), con, fuel⟩ T [a0, a1, a2, some (.ref j), none, none, none, a7, none, none]) S (Fin fun a _ => a = .bl true) := by
    intro S j ss a0 a1 a2 a7 ok hl hr
    rw [hT]
    exact tail69_ok h ok hl hr
  rw [← hT]
  simp only [wp_cons, wp_nil, wx_asgi, ev_lit, ev_var, ev_gl, ev_tup, ev_lst, ev_bin, ev_neg, ev_cmp, ev_chain, ev_and, ev_or, ev_not, ev_ifx, ev_idx, ev_slc, ev_call, ev_blt, ev_isi, ev_isis, ev_mth, ev_lc, ei_val, ei_rng1, ei_rng2, ei_zip, ei_enum, wx_addL, ev_fmt, ev_fstr, ev_tupRg1, ev_tupRg2, wp_fmtS, wp_fmtI, wp_fstr, wp_tupRg, wx_reverse, wp_neg, wp_rng1, wp_rng2, evEs, ev_asg, ev_ex, ev_ret, ev_retn, ev_iff, ev_for, ev_pass, ev_brk, ev_cont, ev_nope, wp_no, evT, evAnd, evOr, evTA, evTO, evP, evC, wp_bnd, wp_ret, wp_opt, wp_see, wp_add, wp_sub, wx_mul, wx_fdiv, wx_mod, wx_addS, wx_addT, wx_idxT, wx_idxL, wx_int, wx_abs, wx_lenL, wx_lenT, wx_lenS, wx_strI, wx_tupT, wx_tupL, wx_listT, wx_listL, wx_listS, wx_slcT, wx_slcL, wx_append, wx_pop0, wx_joinL, wx_split, wx_find, wp_newL, wp_setL, then_nx, then_rt, then_bk, then_ct, fin_rt, fin_nx, asg_name, asg_tup, asgs_nil, asgs_cons, le_line, lt_line, cop_eq, cop_ne, cop_lt, cop_le, cop_gt, cop_ge, cop_in, cop_notin, cop_is0, cop_is1, cop_is2, cop_is3, cop_is4, cop_is5, eq_int, eq_bl, eq_str, tru_non, tru_bl, tru_int, tru_tup, tru_ref, tn_non, tn_bl, tn_int, tn_str, tn_tup, tn_ref, isTn, mt_append, mt_pop0, mt_pop, mt_reverse, mt_clear, mt_join, mt_split, mt_find, mt_startswith, mt_partition, wk_tup, wk_str, wk_ref,
    rdL_cons0, rdL_ro0, rdL_succ, rdM_cons0, rdM_succ, List.map_cons, List.map_nil, List.replicate_succ, List.replicate_zero, List.cons_append, List.nil_append, List.append_nil, List.append_assoc, rdL_at, rdL_at0, rdM_at, rdM_at0, set_at, set_at0, List.length_append, Nat.add_assoc, List.getElem?_cons_succ, List.getElem?_cons_zero, List.set_cons_succ, List.set_cons_zero, Nat.reduceSub, Nat.reduceAdd, Option.map_some, Option.bind_some, Option.some.injEq, exists_eq_left', exists_eq_left, exists_eq', exists_and_left, exists_const, D.int.injEq, D.ref.injEq, D.str.injEq, D.bl.injEq, D.tup.injEq, true_and, and_true, List.length_cons, List.length_nil, atI_lit, ixN_lit, Nat.reduceLT, Nat.reduceLeDiff, Nat.reduceEqDiff, Int.reduceLT, Int.reduceLE, Int.reduceEq, Nat.lt_irrefl, Nat.zero_lt_succ, Nat.reduceMul, Int.reduceNeg, Bool.false_eq_true, if_true, if_false, Nat.zero_add, nlit, eq_self, decide_true, decide_false, reduceIte, Bool.or_false, Bool.false_or, Bool.true_or, Bool.or_true, Bool.and_true, Bool.true_and, Bool.and_false, Bool.false_and, Bool.not_true, Bool.not_false, List.all_cons, List.all_nil, List.any_cons, List.any_nil]
  refine (pool_ok h.pool hns).mono ?_
  rintro _ _ ⟨rfl, G, C, ce, hC, hCl, rfl⟩
  try simp only [wp_cons, wp_nil, wx_asgi, ev_lit, ev_var, ev_gl, ev_tup, ev_lst, ev_bin, ev_neg, ev_cmp, ev_chain, ev_and, ev_or, ev_not, ev_ifx, ev_idx, ev_slc, ev_call, ev_blt, ev_isi, ev_isis, ev_mth, ev_lc, ei_val, ei_rng1, ei_rng2, ei_zip, ei_enum, wx_addL, ev_fmt, ev_fstr, ev_tupRg1, ev_tupRg2, wp_fmtS, wp_fmtI, wp_fstr, wp_tupRg, wx_reverse, wp_neg, wp_rng1, wp_rng2, evEs, ev_asg, ev_ex, ev_ret, ev_retn, ev_iff, ev_for, ev_pass, ev_brk, ev_cont, ev_nope, wp_no, evT, evAnd, evOr, evTA, evTO, evP, evC, wp_bnd, wp_ret, wp_opt, wp_see, wp_add, wp_sub, wx_mul, wx_fdiv, wx_mod, wx_addS, wx_addT, wx_idxT, wx_idxL, wx_int, wx_abs, wx_lenL, wx_lenT, wx_lenS, wx_strI, wx_tupT, wx_tupL, wx_listT, wx_listL, wx_listS, wx_slcT, wx_slcL, wx_append, wx_pop0, wx_joinL, wx_split, wx_find, wp_newL, wp_setL, then_nx, then_rt, then_bk, then_ct, fin_rt, fin_nx, asg_name, asg_tup, asgs_nil, asgs_cons, le_line, lt_line, cop_eq, cop_ne, cop_lt, cop_le, cop_gt, cop_ge, cop_in, cop_notin, cop_is0, cop_is1, cop_is2, cop_is3, cop_is4, cop_is5, eq_int, eq_bl, eq_str, tru_non, tru_bl, tru_int, tru_tup, tru_ref, tn_non, tn_bl, tn_int, tn_str, tn_tup, tn_ref, isTn, mt_append, mt_pop0, mt_pop, mt_reverse, mt_clear, mt_join, mt_split, mt_find, mt_startswith, mt_partition, wk_tup, wk_str, wk_ref,
    rdL_cons0, rdL_ro0, rdL_succ, rdM_cons0, rdM_succ, List.map_cons, List.map_nil, List.replicate_succ, List.replicate_zero, List.cons_append, List.nil_append, List.append_nil, List.append_assoc, rdL_at, rdL_at0, rdM_at, rdM_at0, set_at, set_at0, List.length_append, Nat.add_assoc, List.getElem?_cons_succ, List.getElem?_cons_zero, List.set_cons_succ, List.set_cons_zero, Nat.reduceSub, Nat.reduceAdd, Option.map_some, Option.bind_some, Option.some.injEq, exists_eq_left', exists_eq_left, exists_eq', exists_and_left, exists_const, D.int.injEq, D.ref.injEq, D.str.injEq, D.bl.injEq, D.tup.injEq, true_and, and_true, List.length_cons, List.length_nil, atI_lit, ixN_lit, Nat.reduceLT, Nat.reduceLeDiff, Nat.reduceEqDiff, Int.reduceLT, Int.reduceLE, Int.reduceEq, Nat.lt_irrefl, Nat.zero_lt_succ, Nat.reduceMul, Int.reduceNeg, Bool.false_eq_true, if_true, if_false, Nat.zero_add, nlit, eq_self, decide_true, decide_false, reduceIte, Bool.or_false, Bool.false_or, Bool.true_or, Bool.or_true, Bool.and_true, Bool.true_and, Bool.and_false, Bool.false_and, Bool.not_true, Bool.not_false, List.all_cons, List.all_nil, List.any_cons, List.any_nil]
  refine (draw_ok h.draw hC hCl (by omega) (by omega)).mono ?_
  rintro _ _ ⟨many, rfl, hm, G1, rfl⟩
  simp only [wp_cons, wp_nil, wx_asgi, ev_lit, ev_var, ev_gl, ev_tup, ev_lst, ev_bin, ev_neg, ev_cmp, ev_chain, ev_and, ev_or, ev_not, ev_ifx, ev_idx, ev_slc, ev_call, ev_blt, ev_isi, ev_isis, ev_mth, ev_lc, ei_val, ei_rng1, ei_rng2, ei_zip, ei_enum, wx_addL, ev_fmt, ev_fstr, ev_tupRg1, ev_tupRg2, wp_fmtS, wp_fmtI, wp_fstr, wp_tupRg, wx_reverse, wp_neg, wp_rng1, wp_rng2, evEs, ev_asg, ev_ex, ev_ret, ev_retn, ev_iff, ev_for, ev_pass, ev_brk, ev_cont, ev_nope, wp_no, evT, evAnd, evOr, evTA, evTO, evP, evC, wp_bnd, wp_ret, wp_opt, wp_see, wp_add, wp_sub, wx_mul, wx_fdiv, wx_mod, wx_addS, wx_addT, wx_idxT, wx_idxL, wx_int, wx_abs, wx_lenL, wx_lenT, wx_lenS, wx_strI, wx_tupT, wx_tupL, wx_listT, wx_listL, wx_listS, wx_slcT, wx_slcL, wx_append, wx_pop0, wx_joinL, wx_split, wx_find, wp_newL, wp_setL, then_nx, then_rt, then_bk, then_ct, fin_rt, fin_nx, asg_name, asg_tup, asgs_nil, asgs_cons, le_line, lt_line, cop_eq, cop_ne, cop_lt, cop_le, cop_gt, cop_ge, cop_in, cop_notin, cop_is0, cop_is1, cop_is2, cop_is3, cop_is4, cop_is5, eq_int, eq_bl, eq_str, tru_non, tru_bl, tru_int, tru_tup, tru_ref, tn_non, tn_bl, tn_int, tn_str, tn_tup, tn_ref, isTn, mt_append, mt_pop0, mt_pop, mt_reverse, mt_clear, mt_join, mt_split, mt_find, mt_startswith, mt_partition, wk_tup, wk_str, wk_ref,
    rdL_cons0, rdL_ro0, rdL_succ, rdM_cons0, rdM_succ, List.map_cons, List.map_nil, List.replicate_succ, List.replicate_zero, List.cons_append, List.nil_append, List.append_nil, List.append_assoc, rdL_at, rdL_at0, rdM_at, rdM_at0, set_at, set_at0, List.length_append, Nat.add_assoc, List.getElem?_cons_succ, List.getElem?_cons_zero, List.set_cons_succ, List.set_cons_zero, Nat.reduceSub, Nat.reduceAdd, Option.map_some, Option.bind_some, Option.some.injEq, exists_eq_left', exists_eq_left, exists_eq', exists_and_left, exists_const, D.int.injEq, D.ref.injEq, D.str.injEq, D.bl.injEq, D.tup.injEq, true_and, and_true, List.length_cons, List.length_nil, atI_lit, ixN_lit, Nat.reduceLT, Nat.reduceLeDiff, Nat.reduceEqDiff, Int.reduceLT, Int.reduceLE, Int.reduceEq, Nat.lt_irrefl, Nat.zero_lt_succ, Nat.reduceMul, Int.reduceNeg, Bool.false_eq_true, if_true, if_false, Nat.zero_add, nlit, eq_self, decide_true, decide_false, reduceIte, Bool.or_false, Bool.false_or, Bool.true_or, Bool.or_true, Bool.and_true, Bool.true_and, Bool.and_false, Bool.false_and, Bool.not_true, Bool.not_false, List.all_cons, List.all_nil, List.any_cons, List.any_nil]
  refine ⟨by unfold inRng; exact decide_eq_true (by omega), ?_⟩
  obtain ⟨I, hI⟩ : ∃ I : Nat → List D → Store → Prop, ∀ i acc S, I i acc S ↔ (∃ (ss : List Sg) (G' : List Int) (n' : Int) (X : Store), acc = ss.map Sg.d ∧ ss.length = i ∧ AllOk ss ∧ (1 ≤ n' ∧ n' ≤ 1 + 13 * i) ∧ S = pst (ns.map .int) ce G' C n' X) := ⟨_, fun _ _ _ => Iff.rfl⟩
  refine comp_wp (w := wkRng 0 many.toNat) I (fun i acc S hi hh => ?_) (fun acc S hh => ?_) _ 0 [] _ (by simp [wkRng]) ((hI _ _ _).mpr ⟨[], G1, 1, [], rfl, rfl, (fun _ hs => by cases hs), by omega, rfl⟩)
  · obtain ⟨ss, G2, n2, X, rfl, rfl, ok, hn2, rfl⟩ := (hI _ _ _).mp hh
    have hi : ss.length < many.toNat := hi
    refine ⟨.int (0 + ss.length), by simp [wkRng], ?_⟩
    rw [wx_itemF]
    simp only [wp_cons, wp_nil, wx_asgi, ev_lit, ev_var, ev_gl, ev_tup, ev_lst, ev_bin, ev_neg, ev_cmp, ev_chain, ev_and, ev_or, ev_not, ev_ifx, ev_idx, ev_slc, ev_call, ev_blt, ev_isi, ev_isis, ev_mth, ev_lc, ei_val, ei_rng1, ei_rng2, ei_zip, ei_enum, wx_addL, ev_fmt, ev_fstr, ev_tupRg1, ev_tupRg2, wp_fmtS, wp_fmtI, wp_fstr, wp_tupRg, wx_reverse, wp_neg, wp_rng1, wp_rng2, evEs, ev_asg, ev_ex, ev_ret, ev_retn, ev_iff, ev_for, ev_pass, ev_brk, ev_cont, ev_nope, wp_no, evT, evAnd, evOr, evTA, evTO, evP, evC, wp_bnd, wp_ret, wp_opt, wp_see, wp_add, wp_sub, wx_mul, wx_fdiv, wx_mod, wx_addS, wx_addT, wx_idxT, wx_idxL, wx_int, wx_abs, wx_lenL, wx_lenT, wx_lenS, wx_strI, wx_tupT, wx_tupL, wx_listT, wx_listL, wx_listS, wx_slcT, wx_slcL, wx_append, wx_pop0, wx_joinL, wx_split, wx_find, wp_newL, wp_setL, then_nx, then_rt, then_bk, then_ct, fin_rt, fin_nx, asg_name, asg_tup, asgs_nil, asgs_cons, le_line, lt_line, cop_eq, cop_ne, cop_lt, cop_le, cop_gt, cop_ge, cop_in, cop_notin, cop_is0, cop_is1, cop_is2, cop_is3, cop_is4, cop_is5, eq_int, eq_bl, eq_str, tru_non, tru_bl, tru_int, tru_tup, tru_ref, tn_non, tn_bl, tn_int, tn_str, tn_tup, tn_ref, isTn, mt_append, mt_pop0, mt_pop, mt_reverse, mt_clear, mt_join, mt_split, mt_find, mt_startswith, mt_partition, wk_tup, wk_str, wk_ref,
    rdL_cons0, rdL_ro0, rdL_succ, rdM_cons0, rdM_succ, List.map_cons, List.map_nil, List.replicate_succ, List.replicate_zero, List.cons_append, List.nil_append, List.append_nil, List.append_assoc, rdL_at, rdL_at0, rdM_at, rdM_at0, set_at, set_at0, List.length_append, Nat.add_assoc, List.getElem?_cons_succ, List.getElem?_cons_zero, List.set_cons_succ, List.set_cons_zero, Nat.reduceSub, Nat.reduceAdd, Option.map_some, Option.bind_some, Option.some.injEq, exists_eq_left', exists_eq_left, exists_eq', exists_and_left, exists_const, D.int.injEq, D.ref.injEq, D.str.injEq, D.bl.injEq, D.tup.injEq, true_and, and_true, List.length_cons, List.length_nil, atI_lit, ixN_lit, Nat.reduceLT, Nat.reduceLeDiff, Nat.reduceEqDiff, Int.reduceLT, Int.reduceLE, Int.reduceEq, Nat.lt_irrefl, Nat.zero_lt_succ, Nat.reduceMul, Int.reduceNeg, Bool.false_eq_true, if_true, if_false, Nat.zero_add, nlit, eq_self, decide_true, decide_false, reduceIte, Bool.or_false, Bool.false_or, Bool.true_or, Bool.or_true, Bool.and_true, Bool.true_and, Bool.and_false, Bool.false_and, Bool.not_true, Bool.not_false, List.all_cons, List.all_nil, List.any_cons, List.any_nil, wipeD]
    refine ⟨fun _ => ?_, fun z => by cases z⟩
    refine (any_step_ok (k := k + 3) h hC hCl (by omega)).mono ?_
    rintro _ _ ⟨s, oks, rfl, G3, n3, Y, hn3, rfl⟩
    refine ⟨by simp; exact Nat.lt_of_le_of_lt (by omega : _ ≤ 1000) (by decide), (hI _ _ _).mpr ⟨ss ++ [s], G3, n3, X ++ Y, by simp, by simp, fun x hx => ?_, by omega, rfl⟩⟩
    rcases List.mem_append.mp hx with hx | hx
    · exact ok x hx
    · rw [List.mem_singleton.mp hx]; exact oks
  · obtain ⟨ss, G2, n2, X, rfl, hsl, ok, hn2, rfl⟩ := (hI _ _ _).mp hh
    have hsl : ss.length = many.toNat := hsl
    have hn2 : 1 ≤ n2 ∧ n2 ≤ 1 + 13 * (many.toNat : Int) := hn2
    refine ⟨rfl, ?_⟩
    simp only [wp_cons, wp_nil, wx_asgi, ev_lit, ev_var, ev_gl, ev_tup, ev_lst, ev_bin, ev_neg, ev_cmp, ev_chain, ev_and, ev_or, ev_not, ev_ifx, ev_idx, ev_slc, ev_call, ev_blt, ev_isi, ev_isis, ev_mth, ev_lc, ei_val, ei_rng1, ei_rng2, ei_zip, ei_enum, wx_addL, ev_fmt, ev_fstr, ev_tupRg1, ev_tupRg2, wp_fmtS, wp_fmtI, wp_fstr, wp_tupRg, wx_reverse, wp_neg, wp_rng1, wp_rng2, evEs, ev_asg, ev_ex, ev_ret, ev_retn, ev_iff, ev_for, ev_pass, ev_brk, ev_cont, ev_nope, wp_no, evT, evAnd, evOr, evTA, evTO, evP, evC, wp_bnd, wp_ret, wp_opt, wp_see, wp_add, wp_sub, wx_mul, wx_fdiv, wx_mod, wx_addS, wx_addT, wx_idxT, wx_idxL, wx_int, wx_abs, wx_lenL, wx_lenT, wx_lenS, wx_strI, wx_tupT, wx_tupL, wx_listT, wx_listL, wx_listS, wx_slcT, wx_slcL, wx_append, wx_pop0, wx_joinL, wx_split, wx_find, wp_newL, wp_setL, then_nx, then_rt, then_bk, then_ct, fin_rt, fin_nx, asg_name, asg_tup, asgs_nil, asgs_cons, le_line, lt_line, cop_eq, cop_ne, cop_lt, cop_le, cop_gt, cop_ge, cop_in, cop_notin, cop_is0, cop_is1, cop_is2, cop_is3, cop_is4, cop_is5, eq_int, eq_bl, eq_str, tru_non, tru_bl, tru_int, tru_tup, tru_ref, tn_non, tn_bl, tn_int, tn_str, tn_tup, tn_ref, isTn, mt_append, mt_pop0, mt_pop, mt_reverse, mt_clear, mt_join, mt_split, mt_find, mt_startswith, mt_partition, wk_tup, wk_str, wk_ref,
    rdL_cons0, rdL_ro0, rdL_succ, rdM_cons0, rdM_succ, List.map_cons, List.map_nil, List.replicate_succ, List.replicate_zero, List.cons_append, List.nil_append, List.append_nil, List.append_assoc, rdL_at, rdL_at0, rdM_at, rdM_at0, set_at, set_at0, List.length_append, Nat.add_assoc, List.getElem?_cons_succ, List.getElem?_cons_zero, List.set_cons_succ, List.set_cons_zero, Nat.reduceSub, Nat.reduceAdd, Option.map_some, Option.bind_some, Option.some.injEq, exists_eq_left', exists_eq_left, exists_eq', exists_and_left, exists_const, D.int.injEq, D.ref.injEq, D.str.injEq, D.bl.injEq, D.tup.injEq, true_and, and_true, List.length_cons, List.length_nil, atI_lit, ixN_lit, Nat.reduceLT, Nat.reduceLeDiff, Nat.reduceEqDiff, Int.reduceLT, Int.reduceLE, Int.reduceEq, Nat.lt_irrefl, Nat.zero_lt_succ, Nat.reduceMul, Int.reduceNeg, Bool.false_eq_true, if_true, if_false, Nat.zero_add, nlit, eq_self, decide_true, decide_false, reduceIte, Bool.or_false, Bool.false_or, Bool.true_or, Bool.or_true, Bool.and_true, Bool.true_and, Bool.and_false, Bool.false_and, Bool.not_true, Bool.not_false, List.all_cons, List.all_nil, List.any_cons, List.any_nil]
    refine (draw_ok h.draw hC hCl (by omega) (by omega)).mono ?_
    rintro _ _ ⟨z, rfl, hz, G3, rfl⟩
    simp only [wp_cons, wp_nil, wx_asgi, ev_lit, ev_var, ev_gl, ev_tup, ev_lst, ev_bin, ev_neg, ev_cmp, ev_chain, ev_and, ev_or, ev_not, ev_ifx, ev_idx, ev_slc, ev_call, ev_blt, ev_isi, ev_isis, ev_mth, ev_lc, ei_val, ei_rng1, ei_rng2, ei_zip, ei_enum, wx_addL, ev_fmt, ev_fstr, ev_tupRg1, ev_tupRg2, wp_fmtS, wp_fmtI, wp_fstr, wp_tupRg, wx_reverse, wp_neg, wp_rng1, wp_rng2, evEs, ev_asg, ev_ex, ev_ret, ev_retn, ev_iff, ev_for, ev_pass, ev_brk, ev_cont, ev_nope, wp_no, evT, evAnd, evOr, evTA, evTO, evP, evC, wp_bnd, wp_ret, wp_opt, wp_see, wp_add, wp_sub, wx_mul, wx_fdiv, wx_mod, wx_addS, wx_addT, wx_idxT, wx_idxL, wx_int, wx_abs, wx_lenL, wx_lenT, wx_lenS, wx_strI, wx_tupT, wx_tupL, wx_listT, wx_listL, wx_listS, wx_slcT, wx_slcL, wx_append, wx_pop0, wx_joinL, wx_split, wx_find, wp_newL, wp_setL, then_nx, then_rt, then_bk, then_ct, fin_rt, fin_nx, asg_name, asg_tup, asgs_nil, asgs_cons, le_line, lt_line, cop_eq, cop_ne, cop_lt, cop_le, cop_gt, cop_ge, cop_in, cop_notin, cop_is0, cop_is1, cop_is2, cop_is3, cop_is4, cop_is5, eq_int, eq_bl, eq_str, tru_non, tru_bl, tru_int, tru_tup, tru_ref, tn_non, tn_bl, tn_int, tn_str, tn_tup, tn_ref, isTn, mt_append, mt_pop0, mt_pop, mt_reverse, mt_clear, mt_join, mt_split, mt_find, mt_startswith, mt_partition, wk_tup, wk_str, wk_ref,
    rdL_cons0, rdL_ro0, rdL_succ, rdM_cons0, rdM_succ, List.map_cons, List.map_nil, List.replicate_succ, List.replicate_zero, List.cons_append, List.nil_append, List.append_nil, List.append_assoc, rdL_at, rdL_at0, rdM_at, rdM_at0, set_at, set_at0, List.length_append, Nat.add_assoc, List.getElem?_cons_succ, List.getElem?_cons_zero, List.set_cons_succ, List.set_cons_zero, Nat.reduceSub, Nat.reduceAdd, Option.map_some, Option.bind_some, Option.some.injEq, exists_eq_left', exists_eq_left, exists_eq', exists_and_left, exists_const, D.int.injEq, D.ref.injEq, D.str.injEq, D.bl.injEq, D.tup.injEq, true_and, and_true, List.length_cons, List.length_nil, atI_lit, ixN_lit, Nat.reduceLT, Nat.reduceLeDiff, Nat.reduceEqDiff, Int.reduceLT, Int.reduceLE, Int.reduceEq, Nat.lt_irrefl, Nat.zero_lt_succ, Nat.reduceMul, Int.reduceNeg, Bool.false_eq_true, if_true, if_false, Nat.zero_add, nlit, eq_self, decide_true, decide_false, reduceIte, Bool.or_false, Bool.false_or, Bool.true_or, Bool.or_true, Bool.and_true, Bool.true_and, Bool.and_false, Bool.false_and, Bool.not_true, Bool.not_false, List.all_cons, List.all_nil, List.any_cons, List.any_nil]
    refine wp_iteL (fun hz0 => ?_) (fun hz0 => ?_)
    · simp only [wp_cons, wp_nil, wx_asgi, ev_lit, ev_var, ev_gl, ev_tup, ev_lst, ev_bin, ev_neg, ev_cmp, ev_chain, ev_and, ev_or, ev_not, ev_ifx, ev_idx, ev_slc, ev_call, ev_blt, ev_isi, ev_isis, ev_mth, ev_lc, ei_val, ei_rng1, ei_rng2, ei_zip, ei_enum, wx_addL, ev_fmt, ev_fstr, ev_tupRg1, ev_tupRg2, wp_fmtS, wp_fmtI, wp_fstr, wp_tupRg, wx_reverse, wp_neg, wp_rng1, wp_rng2, evEs, ev_asg, ev_ex, ev_ret, ev_retn, ev_iff, ev_for, ev_pass, ev_brk, ev_cont, ev_nope, wp_no, evT, evAnd, evOr, evTA, evTO, evP, evC, wp_bnd, wp_ret, wp_opt, wp_see, wp_add, wp_sub, wx_mul, wx_fdiv, wx_mod, wx_addS, wx_addT, wx_idxT, wx_idxL, wx_int, wx_abs, wx_lenL, wx_lenT, wx_lenS, wx_strI, wx_tupT, wx_tupL, wx_listT, wx_listL, wx_listS, wx_slcT, wx_slcL, wx_append, wx_pop0, wx_joinL, wx_split, wx_find, wp_newL, wp_setL, then_nx, then_rt, then_bk, then_ct, fin_rt, fin_nx, asg_name, asg_tup, asgs_nil, asgs_cons, le_line, lt_line, cop_eq, cop_ne, cop_lt, cop_le, cop_gt, cop_ge, cop_in, cop_notin, cop_is0, cop_is1, cop_is2, cop_is3, cop_is4, cop_is5, eq_int, eq_bl, eq_str, tru_non, tru_bl, tru_int, tru_tup, tru_ref, tn_non, tn_bl, tn_int, tn_str, tn_tup, tn_ref, isTn, mt_append, mt_pop0, mt_pop, mt_reverse, mt_clear, mt_join, mt_split, mt_find, mt_startswith, mt_partition, wk_tup, wk_str, wk_ref,
    rdL_cons0, rdL_ro0, rdL_succ, rdM_cons0, rdM_succ, List.map_cons, List.map_nil, List.replicate_succ, List.replicate_zero, List.cons_append, List.nil_append, List.append_nil, List.append_assoc, rdL_at, rdL_at0, rdM_at, rdM_at0, set_at, set_at0, List.length_append, Nat.add_assoc, List.getElem?_cons_succ, List.getElem?_cons_zero, List.set_cons_succ, List.set_cons_zero, Nat.reduceSub, Nat.reduceAdd, Option.map_some, Option.bind_some, Option.some.injEq, exists_eq_left', exists_eq_left, exists_eq', exists_and_left, exists_const, D.int.injEq, D.ref.injEq, D.str.injEq, D.bl.injEq, D.tup.injEq, true_and, and_true, List.length_cons, List.length_nil, atI_lit, ixN_lit, Nat.reduceLT, Nat.reduceLeDiff, Nat.reduceEqDiff, Int.reduceLT, Int.reduceLE, Int.reduceEq, Nat.lt_irrefl, Nat.zero_lt_succ, Nat.reduceMul, Int.reduceNeg, Bool.false_eq_true, if_true, if_false, Nat.zero_add, nlit, eq_self, decide_true, decide_false, reduceIte, Bool.or_false, Bool.false_or, Bool.true_or, Bool.or_true, Bool.and_true, Bool.true_and, Bool.and_false, Bool.false_and, Bool.not_true, Bool.not_false, List.all_cons, List.all_nil, List.any_cons, List.any_nil]
      refine (draw_ok h.draw hC hCl (by omega) (by omega)).mono ?_
      rintro _ _ ⟨extra, rfl, he, G4, rfl⟩
      simp only [wp_cons, wp_nil, wx_asgi, ev_lit, ev_var, ev_gl, ev_tup, ev_lst, ev_bin, ev_neg, ev_cmp, ev_chain, ev_and, ev_or, ev_not, ev_ifx, ev_idx, ev_slc, ev_call, ev_blt, ev_isi, ev_isis, ev_mth, ev_lc, ei_val, ei_rng1, ei_rng2, ei_zip, ei_enum, wx_addL, ev_fmt, ev_fstr, ev_tupRg1, ev_tupRg2, wp_fmtS, wp_fmtI, wp_fstr, wp_tupRg, wx_reverse, wp_neg, wp_rng1, wp_rng2, evEs, ev_asg, ev_ex, ev_ret, ev_retn, ev_iff, ev_for, ev_pass, ev_brk, ev_cont, ev_nope, wp_no, evT, evAnd, evOr, evTA, evTO, evP, evC, wp_bnd, wp_ret, wp_opt, wp_see, wp_add, wp_sub, wx_mul, wx_fdiv, wx_mod, wx_addS, wx_addT, wx_idxT, wx_idxL, wx_int, wx_abs, wx_lenL, wx_lenT, wx_lenS, wx_strI, wx_tupT, wx_tupL, wx_listT, wx_listL, wx_listS, wx_slcT, wx_slcL, wx_append, wx_pop0, wx_joinL, wx_split, wx_find, wp_newL, wp_setL, then_nx, then_rt, then_bk, then_ct, fin_rt, fin_nx, asg_name, asg_tup, asgs_nil, asgs_cons, le_line, lt_line, cop_eq, cop_ne, cop_lt, cop_le, cop_gt, cop_ge, cop_in, cop_notin, cop_is0, cop_is1, cop_is2, cop_is3, cop_is4, cop_is5, eq_int, eq_bl, eq_str, tru_non, tru_bl, tru_int, tru_tup, tru_ref, tn_non, tn_bl, tn_int, tn_str, tn_tup, tn_ref, isTn, mt_append, mt_pop0, mt_pop, mt_reverse, mt_clear, mt_join, mt_split, mt_find, mt_startswith, mt_partition, wk_tup, wk_str, wk_ref,
    rdL_cons0, rdL_ro0, rdL_succ, rdM_cons0, rdM_succ, List.map_cons, List.map_nil, List.replicate_succ, List.replicate_zero, List.cons_append, List.nil_append, List.append_nil, List.append_assoc, rdL_at, rdL_at0, rdM_at, rdM_at0, set_at, set_at0, List.length_append, Nat.add_assoc, List.getElem?_cons_succ, List.getElem?_cons_zero, List.set_cons_succ, List.set_cons_zero, Nat.reduceSub, Nat.reduceAdd, Option.map_some, Option.bind_some, Option.some.injEq, exists_eq_left', exists_eq_left, exists_eq', exists_and_left, exists_const, D.int.injEq, D.ref.injEq, D.str.injEq, D.bl.injEq, D.tup.injEq, true_and, and_true, List.length_cons, List.length_nil, atI_lit, ixN_lit, Nat.reduceLT, Nat.reduceLeDiff, Nat.reduceEqDiff, Int.reduceLT, Int.reduceLE, Int.reduceEq, Nat.lt_irrefl, Nat.zero_lt_succ, Nat.reduceMul, Int.reduceNeg, Bool.false_eq_true, if_true, if_false, Nat.zero_add, nlit, eq_self, decide_true, decide_false, reduceIte, Bool.or_false, Bool.false_or, Bool.true_or, Bool.or_true, Bool.and_true, Bool.true_and, Bool.and_false, Bool.false_and, Bool.not_true, Bool.not_false, List.all_cons, List.all_nil, List.any_cons, List.any_nil]
      refine ⟨by unfold inRng; exact decide_eq_true (by omega), ?_⟩
      obtain ⟨J, hJ⟩ : ∃ I : Nat → List D → Store → Prop, ∀ i acc S, I i acc S ↔ (acc = (List.replicate i (Sg.go (many / 5))).map Sg.d ∧ S = pst (ns.map .int) ce G4 C (n2 + 1 + 1) (X ++ [.lst (ss.map Sg.d)])) := ⟨_, fun _ _ _ => Iff.rfl⟩
      refine comp_wp (w := wkRng 0 extra.toNat) J (fun i acc S hi hh => ?_) (fun acc S hh => ?_) _ 0 [] _ (by simp [wkRng]) ((hJ _ _ _).mpr ⟨rfl, rfl⟩)
      · obtain ⟨rfl, rfl⟩ := (hJ _ _ _).mp hh
        have hi : i < extra.toNat := hi
        refine ⟨.int (0 + i), by simp [wkRng], ?_⟩
        rw [wx_itemF]
        simp only [wp_cons, wp_nil, wx_asgi, ev_lit, ev_var, ev_gl, ev_tup, ev_lst, ev_bin, ev_neg, ev_cmp, ev_chain, ev_and, ev_or, ev_not, ev_ifx, ev_idx, ev_slc, ev_call, ev_blt, ev_isi, ev_isis, ev_mth, ev_lc, ei_val, ei_rng1, ei_rng2, ei_zip, ei_enum, wx_addL, ev_fmt, ev_fstr, ev_tupRg1, ev_tupRg2, wp_fmtS, wp_fmtI, wp_fstr, wp_tupRg, wx_reverse, wp_neg, wp_rng1, wp_rng2, evEs, ev_asg, ev_ex, ev_ret, ev_retn, ev_iff, ev_for, ev_pass, ev_brk, ev_cont, ev_nope, wp_no, evT, evAnd, evOr, evTA, evTO, evP, evC, wp_bnd, wp_ret, wp_opt, wp_see, wp_add, wp_sub, wx_mul, wx_fdiv, wx_mod, wx_addS, wx_addT, wx_idxT, wx_idxL, wx_int, wx_abs, wx_lenL, wx_lenT, wx_lenS, wx_strI, wx_tupT, wx_tupL, wx_listT, wx_listL, wx_listS, wx_slcT, wx_slcL, wx_append, wx_pop0, wx_joinL, wx_split, wx_find, wp_newL, wp_setL, then_nx, then_rt, then_bk, then_ct, fin_rt, fin_nx, asg_name, asg_tup, asgs_nil, asgs_cons, le_line, lt_line, cop_eq, cop_ne, cop_lt, cop_le, cop_gt, cop_ge, cop_in, cop_notin, cop_is0, cop_is1, cop_is2, cop_is3, cop_is4, cop_is5, eq_int, eq_bl, eq_str, tru_non, tru_bl, tru_int, tru_tup, tru_ref, tn_non, tn_bl, tn_int, tn_str, tn_tup, tn_ref, isTn, mt_append, mt_pop0, mt_pop, mt_reverse, mt_clear, mt_join, mt_split, mt_find, mt_startswith, mt_partition, wk_tup, wk_str, wk_ref,
    rdL_cons0, rdL_ro0, rdL_succ, rdM_cons0, rdM_succ, List.map_cons, List.map_nil, List.replicate_succ, List.replicate_zero, List.cons_append, List.nil_append, List.append_nil, List.append_assoc, rdL_at, rdL_at0, rdM_at, rdM_at0, set_at, set_at0, List.length_append, Nat.add_assoc, List.getElem?_cons_succ, List.getElem?_cons_zero, List.set_cons_succ, List.set_cons_zero, Nat.reduceSub, Nat.reduceAdd, Option.map_some, Option.bind_some, Option.some.injEq, exists_eq_left', exists_eq_left, exists_eq', exists_and_left, exists_const, D.int.injEq, D.ref.injEq, D.str.injEq, D.bl.injEq, D.tup.injEq, true_and, and_true, List.length_cons, List.length_nil, atI_lit, ixN_lit, Nat.reduceLT, Nat.reduceLeDiff, Nat.reduceEqDiff, Int.reduceLT, Int.reduceLE, Int.reduceEq, Nat.lt_irrefl, Nat.zero_lt_succ, Nat.reduceMul, Int.reduceNeg, Bool.false_eq_true, if_true, if_false, Nat.zero_add, nlit, eq_self, decide_true, decide_false, reduceIte, Bool.or_false, Bool.false_or, Bool.true_or, Bool.or_true, Bool.and_true, Bool.true_and, Bool.and_false, Bool.false_and, Bool.not_true, Bool.not_false, List.all_cons, List.all_nil, List.any_cons, List.any_nil, wipeD]
        refine ⟨fun _ => ⟨lgd (by omega) (by omega), by simp; exact Nat.lt_of_le_of_lt (by omega : _ ≤ 1000) (by decide), (hJ _ _ _).mpr ⟨?_, rfl⟩⟩, fun z => by cases z⟩
        rw [List.replicate_succ', List.map_append]
        rfl
      · obtain ⟨rfl, rfl⟩ := (hJ _ _ _).mp hh
        have e1 : (wkRng 0 extra.toNat).n = extra.toNat := rfl
        refine ⟨rfl, ?_⟩
        rw [e1]
        have hmid : rdM (pst (ns.map .int) ce G4 C (n2 + 1 + 1) (X ++ [.lst (ss.map Sg.d)] ++ [.lst ((List.replicate extra.toNat (Sg.go (many / 5))).map Sg.d)])) (X.length + 5) = some (ss.map Sg.d) := by
          simp only [wp_cons, wp_nil, wx_asgi, ev_lit, ev_var, ev_gl, ev_tup, ev_lst, ev_bin, ev_neg, ev_cmp, ev_chain, ev_and, ev_or, ev_not, ev_ifx, ev_idx, ev_slc, ev_call, ev_blt, ev_isi, ev_isis, ev_mth, ev_lc, ei_val, ei_rng1, ei_rng2, ei_zip, ei_enum, wx_addL, ev_fmt, ev_fstr, ev_tupRg1, ev_tupRg2, wp_fmtS, wp_fmtI, wp_fstr, wp_tupRg, wx_reverse, wp_neg, wp_rng1, wp_rng2, evEs, ev_asg, ev_ex, ev_ret, ev_retn, ev_iff, ev_for, ev_pass, ev_brk, ev_cont, ev_nope, wp_no, evT, evAnd, evOr, evTA, evTO, evP, evC, wp_bnd, wp_ret, wp_opt, wp_see, wp_add, wp_sub, wx_mul, wx_fdiv, wx_mod, wx_addS, wx_addT, wx_idxT, wx_idxL, wx_int, wx_abs, wx_lenL, wx_lenT, wx_lenS, wx_strI, wx_tupT, wx_tupL, wx_listT, wx_listL, wx_listS, wx_slcT, wx_slcL, wx_append, wx_pop0, wx_joinL, wx_split, wx_find, wp_newL, wp_setL, then_nx, then_rt, then_bk, then_ct, fin_rt, fin_nx, asg_name, asg_tup, asgs_nil, asgs_cons, le_line, lt_line, cop_eq, cop_ne, cop_lt, cop_le, cop_gt, cop_ge, cop_in, cop_notin, cop_is0, cop_is1, cop_is2, cop_is3, cop_is4, cop_is5, eq_int, eq_bl, eq_str, tru_non, tru_bl, tru_int, tru_tup, tru_ref, tn_non, tn_bl, tn_int, tn_str, tn_tup, tn_ref, isTn, mt_append, mt_pop0, mt_pop, mt_reverse, mt_clear, mt_join, mt_split, mt_find, mt_startswith, mt_partition, wk_tup, wk_str, wk_ref,
    rdL_cons0, rdL_ro0, rdL_succ, rdM_cons0, rdM_succ, List.map_cons, List.map_nil, List.replicate_succ, List.replicate_zero, List.cons_append, List.nil_append, List.append_nil, List.append_assoc, rdL_at, rdL_at0, rdM_at, rdM_at0, set_at, set_at0, List.length_append, Nat.add_assoc, List.getElem?_cons_succ, List.getElem?_cons_zero, List.set_cons_succ, List.set_cons_zero, Nat.reduceSub, Nat.reduceAdd, Option.map_some, Option.bind_some, Option.some.injEq, exists_eq_left', exists_eq_left, exists_eq', exists_and_left, exists_const, D.int.injEq, D.ref.injEq, D.str.injEq, D.bl.injEq, D.tup.injEq, true_and, and_true, List.length_cons, List.length_nil, atI_lit, ixN_lit, Nat.reduceLT, Nat.reduceLeDiff, Nat.reduceEqDiff, Int.reduceLT, Int.reduceLE, Int.reduceEq, Nat.lt_irrefl, Nat.zero_lt_succ, Nat.reduceMul, Int.reduceNeg, Bool.false_eq_true, if_true, if_false, Nat.zero_add, nlit, eq_self, decide_true, decide_false, reduceIte, Bool.or_false, Bool.false_or, Bool.true_or, Bool.or_true, Bool.and_true, Bool.true_and, Bool.and_false, Bool.false_and, Bool.not_true, Bool.not_false, List.all_cons, List.all_nil, List.any_cons, List.any_nil]
        simp only [wp_cons, wp_nil, wx_asgi, ev_lit, ev_var, ev_gl, ev_tup, ev_lst, ev_bin, ev_neg, ev_cmp, ev_chain, ev_and, ev_or, ev_not, ev_ifx, ev_idx, ev_slc, ev_call, ev_blt, ev_isi, ev_isis, ev_mth, ev_lc, ei_val, ei_rng1, ei_rng2, ei_zip, ei_enum, wx_addL, ev_fmt, ev_fstr, ev_tupRg1, ev_tupRg2, wp_fmtS, wp_fmtI, wp_fstr, wp_tupRg, wx_reverse, wp_neg, wp_rng1, wp_rng2, evEs, ev_asg, ev_ex, ev_ret, ev_retn, ev_iff, ev_for, ev_pass, ev_brk, ev_cont, ev_nope, wp_no, evT, evAnd, evOr, evTA, evTO, evP, evC, wp_bnd, wp_ret, wp_opt, wp_see, wp_add, wp_sub, wx_mul, wx_fdiv, wx_mod, wx_addS, wx_addT, wx_idxT, wx_idxL, wx_int, wx_abs, wx_lenL, wx_lenT, wx_lenS, wx_strI, wx_tupT, wx_tupL, wx_listT, wx_listL, wx_listS, wx_slcT, wx_slcL, wx_append, wx_pop0, wx_joinL, wx_split, wx_find, wp_newL, wp_setL, then_nx, then_rt, then_bk, then_ct, fin_rt, fin_nx, asg_name, asg_tup, asgs_nil, asgs_cons, le_line, lt_line, cop_eq, cop_ne, cop_lt, cop_le, cop_gt, cop_ge, cop_in, cop_notin, cop_is0, cop_is1, cop_is2, cop_is3, cop_is4, cop_is5, eq_int, eq_bl, eq_str, tru_non, tru_bl, tru_int, tru_tup, tru_ref, tn_non, tn_bl, tn_int, tn_str, tn_tup, tn_ref, isTn, mt_append, mt_pop0, mt_pop, mt_reverse, mt_clear, mt_join, mt_split, mt_find, mt_startswith, mt_partition, wk_tup, wk_str, wk_ref,
    rdL_cons0, rdL_ro0, rdL_succ, rdM_cons0, rdM_succ, List.map_cons, List.map_nil, List.replicate_succ, List.replicate_zero, List.cons_append, List.nil_append, List.append_nil, List.append_assoc, rdL_at, rdL_at0, rdM_at, rdM_at0, set_at, set_at0, List.length_append, Nat.add_assoc, List.getElem?_cons_succ, List.getElem?_cons_zero, List.set_cons_succ, List.set_cons_zero, Nat.reduceSub, Nat.reduceAdd, Option.map_some, Option.bind_some, Option.some.injEq, exists_eq_left', exists_eq_left, exists_eq', exists_and_left, exists_const, D.int.injEq, D.ref.injEq, D.str.injEq, D.bl.injEq, D.tup.injEq, true_and, and_true, List.length_cons, List.length_nil, atI_lit, ixN_lit, Nat.reduceLT, Nat.reduceLeDiff, Nat.reduceEqDiff, Int.reduceLT, Int.reduceLE, Int.reduceEq, Nat.lt_irrefl, Nat.zero_lt_succ, Nat.reduceMul, Int.reduceNeg, Bool.false_eq_true, if_true, if_false, Nat.zero_add, nlit, eq_self, decide_true, decide_false, reduceIte, Bool.or_false, Bool.false_or, Bool.true_or, Bool.or_true, Bool.and_true, Bool.true_and, Bool.and_false, Bool.false_and, Bool.not_true, Bool.not_false, List.all_cons, List.all_nil, List.any_cons, List.any_nil]
        refine ⟨line1000 (by simp; omega), ?_⟩
        rw [← List.map_append]
        refine tl (ss := ss ++ List.replicate extra.toNat (Sg.go (many / 5))) (fun x hx => ?_) (by simp; omega) ?_
        · rcases List.mem_append.mp hx with hx | hx
          · exact ok x hx
          · rw [(List.mem_replicate.mp hx).2]
            exact ⟨by omega, by omega⟩
        · simp only [wp_cons, wp_nil, wx_asgi, ev_lit, ev_var, ev_gl, ev_tup, ev_lst, ev_bin, ev_neg, ev_cmp, ev_chain, ev_and, ev_or, ev_not, ev_ifx, ev_idx, ev_slc, ev_call, ev_blt, ev_isi, ev_isis, ev_mth, ev_lc, ei_val, ei_rng1, ei_rng2, ei_zip, ei_enum, wx_addL, ev_fmt, ev_fstr, ev_tupRg1, ev_tupRg2, wp_fmtS, wp_fmtI, wp_fstr, wp_tupRg, wx_reverse, wp_neg, wp_rng1, wp_rng2, evEs, ev_asg, ev_ex, ev_ret, ev_retn, ev_iff, ev_for, ev_pass, ev_brk, ev_cont, ev_nope, wp_no, evT, evAnd, evOr, evTA, evTO, evP, evC, wp_bnd, wp_ret, wp_opt, wp_see, wp_add, wp_sub, wx_mul, wx_fdiv, wx_mod, wx_addS, wx_addT, wx_idxT, wx_idxL, wx_int, wx_abs, wx_lenL, wx_lenT, wx_lenS, wx_strI, wx_tupT, wx_tupL, wx_listT, wx_listL, wx_listS, wx_slcT, wx_slcL, wx_append, wx_pop0, wx_joinL, wx_split, wx_find, wp_newL, wp_setL, then_nx, then_rt, then_bk, then_ct, fin_rt, fin_nx, asg_name, asg_tup, asgs_nil, asgs_cons, le_line, lt_line, cop_eq, cop_ne, cop_lt, cop_le, cop_gt, cop_ge, cop_in, cop_notin, cop_is0, cop_is1, cop_is2, cop_is3, cop_is4, cop_is5, eq_int, eq_bl, eq_str, tru_non, tru_bl, tru_int, tru_tup, tru_ref, tn_non, tn_bl, tn_int, tn_str, tn_tup, tn_ref, isTn, mt_append, mt_pop0, mt_pop, mt_reverse, mt_clear, mt_join, mt_split, mt_find, mt_startswith, mt_partition, wk_tup, wk_str, wk_ref,
    rdL_cons0, rdL_ro0, rdL_succ, rdM_cons0, rdM_succ, List.map_cons, List.map_nil, List.replicate_succ, List.replicate_zero, List.cons_append, List.nil_append, List.append_nil, List.append_assoc, rdL_at, rdL_at0, rdM_at, rdM_at0, set_at, set_at0, List.length_append, Nat.add_assoc, List.getElem?_cons_succ, List.getElem?_cons_zero, List.set_cons_succ, List.set_cons_zero, Nat.reduceSub, Nat.reduceAdd, Option.map_some, Option.bind_some, Option.some.injEq, exists_eq_left', exists_eq_left, exists_eq', exists_and_left, exists_const, D.int.injEq, D.ref.injEq, D.str.injEq, D.bl.injEq, D.tup.injEq, true_and, and_true, List.length_cons, List.length_nil, atI_lit, ixN_lit, Nat.reduceLT, Nat.reduceLeDiff, Nat.reduceEqDiff, Int.reduceLT, Int.reduceLE, Int.reduceEq, Nat.lt_irrefl, Nat.zero_lt_succ, Nat.reduceMul, Int.reduceNeg, Bool.false_eq_true, if_true, if_false, Nat.zero_add, nlit, eq_self, decide_true, decide_false, reduceIte, Bool.or_false, Bool.false_or, Bool.true_or, Bool.or_true, Bool.and_true, Bool.true_and, Bool.and_false, Bool.false_and, Bool.not_true, Bool.not_false, List.all_cons, List.all_nil, List.any_cons, List.any_nil]
    · simp only [wp_cons, wp_nil, wx_asgi, ev_lit, ev_var, ev_gl, ev_tup, ev_lst, ev_bin, ev_neg, ev_cmp, ev_chain, ev_and, ev_or, ev_not, ev_ifx, ev_idx, ev_slc, ev_call, ev_blt, ev_isi, ev_isis, ev_mth, ev_lc, ei_val, ei_rng1, ei_rng2, ei_zip, ei_enum, wx_addL, ev_fmt, ev_fstr, ev_tupRg1, ev_tupRg2, wp_fmtS, wp_fmtI, wp_fstr, wp_tupRg, wx_reverse, wp_neg, wp_rng1, wp_rng2, evEs, ev_asg, ev_ex, ev_ret, ev_retn, ev_iff, ev_for, ev_pass, ev_brk, ev_cont, ev_nope, wp_no, evT, evAnd, evOr, evTA, evTO, evP, evC, wp_bnd, wp_ret, wp_opt, wp_see, wp_add, wp_sub, wx_mul, wx_fdiv, wx_mod, wx_addS, wx_addT, wx_idxT, wx_idxL, wx_int, wx_abs, wx_lenL, wx_lenT, wx_lenS, wx_strI, wx_tupT, wx_tupL, wx_listT, wx_listL, wx_listS, wx_slcT, wx_slcL, wx_append, wx_pop0, wx_joinL, wx_split, wx_find, wp_newL, wp_setL, then_nx, then_rt, then_bk, then_ct, fin_rt, fin_nx, asg_name, asg_tup, asgs_nil, asgs_cons, le_line, lt_line, cop_eq, cop_ne, cop_lt, cop_le, cop_gt, cop_ge, cop_in, cop_notin, cop_is0, cop_is1, cop_is2, cop_is3, cop_is4, cop_is5, eq_int, eq_bl, eq_str, tru_non, tru_bl, tru_int, tru_tup, tru_ref, tn_non, tn_bl, tn_int, tn_str, tn_tup, tn_ref, isTn, mt_append, mt_pop0, mt_pop, mt_reverse, mt_clear, mt_join, mt_split, mt_find, mt_startswith, mt_partition, wk_tup, wk_str, wk_ref,
    rdL_cons0, rdL_ro0, rdL_succ, rdM_cons0, rdM_succ, List.map_cons, List.map_nil, List.replicate_succ, List.replicate_zero, List.cons_append, List.nil_append, List.append_nil, List.append_assoc, rdL_at, rdL_at0, rdM_at, rdM_at0, set_at, set_at0, List.length_append, Nat.add_assoc, List.getElem?_cons_succ, List.getElem?_cons_zero, List.set_cons_succ, List.set_cons_zero, Nat.reduceSub, Nat.reduceAdd, Option.map_some, Option.bind_some, Option.some.injEq, exists_eq_left', exists_eq_left, exists_eq', exists_and_left, exists_const, D.int.injEq, D.ref.injEq, D.str.injEq, D.bl.injEq, D.tup.injEq, true_and, and_true, List.length_cons, List.length_nil, atI_lit, ixN_lit, Nat.reduceLT, Nat.reduceLeDiff, Nat.reduceEqDiff, Int.reduceLT, Int.reduceLE, Int.reduceEq, Nat.lt_irrefl, Nat.zero_lt_succ, Nat.reduceMul, Int.reduceNeg, Bool.false_eq_true, if_true, if_false, Nat.zero_add, nlit, eq_self, decide_true, decide_false, reduceIte, Bool.or_false, Bool.false_or, Bool.true_or, Bool.or_true, Bool.and_true, Bool.true_and, Bool.and_false, Bool.false_and, Bool.not_true, Bool.not_false, List.all_cons, List.all_nil, List.any_cons, List.any_nil]
      refine tl ok (by omega) ?_
      simp only [wp_cons, wp_nil, wx_asgi, ev_lit, ev_var, ev_gl, ev_tup, ev_lst, ev_bin, ev_neg, ev_cmp, ev_chain, ev_and, ev_or, ev_not, ev_ifx, ev_idx, ev_slc, ev_call, ev_blt, ev_isi, ev_isis, ev_mth, ev_lc, ei_val, ei_rng1, ei_rng2, ei_zip, ei_enum, wx_addL, ev_fmt, ev_fstr, ev_tupRg1, ev_tupRg2, wp_fmtS, wp_fmtI, wp_fstr, wp_tupRg, wx_reverse, wp_neg, wp_rng1, wp_rng2, evEs, ev_asg, ev_ex, ev_ret, ev_retn, ev_iff, ev_for, ev_pass, ev_brk, ev_cont, ev_nope, wp_no, evT, evAnd, evOr, evTA, evTO, evP, evC, wp_bnd, wp_ret, wp_opt, wp_see, wp_add, wp_sub, wx_mul, wx_fdiv, wx_mod, wx_addS, wx_addT, wx_idxT, wx_idxL, wx_int, wx_abs, wx_lenL, wx_lenT, wx_lenS, wx_strI, wx_tupT, wx_tupL, wx_listT, wx_listL, wx_listS, wx_slcT, wx_slcL, wx_append, wx_pop0, wx_joinL, wx_split, wx_find, wp_newL, wp_setL, then_nx, then_rt, then_bk, then_ct, fin_rt, fin_nx, asg_name, asg_tup, asgs_nil, asgs_cons, le_line, lt_line, cop_eq, cop_ne, cop_lt, cop_le, cop_gt, cop_ge, cop_in, cop_notin, cop_is0, cop_is1, cop_is2, cop_is3, cop_is4, cop_is5, eq_int, eq_bl, eq_str, tru_non, tru_bl, tru_int, tru_tup, tru_ref, tn_non, tn_bl, tn_int, tn_str, tn_tup, tn_ref, isTn, mt_append, mt_pop0, mt_pop, mt_reverse, mt_clear, mt_join, mt_split, mt_find, mt_startswith, mt_partition, wk_tup, wk_str, wk_ref,
    rdL_cons0, rdL_ro0, rdL_succ, rdM_cons0, rdM_succ, List.map_cons, List.map_nil, List.replicate_succ, List.replicate_zero, List.cons_append, List.nil_append, List.append_nil, List.append_assoc, rdL_at, rdL_at0, rdM_at, rdM_at0, set_at, set_at0, List.length_append, Nat.add_assoc, List.getElem?_cons_succ, List.getElem?_cons_zero, List.set_cons_succ, List.set_cons_zero, Nat.reduceSub, Nat.reduceAdd, Option.map_some, Option.bind_some, Option.some.injEq, exists_eq_left', exists_eq_left, exists_eq', exists_and_left, exists_const, D.int.injEq, D.ref.injEq, D.str.injEq, D.bl.injEq, D.tup.injEq, true_and, and_true, List.length_cons, List.length_nil, atI_lit, ixN_lit, Nat.reduceLT, Nat.reduceLeDiff, Nat.reduceEqDiff, Int.reduceLT, Int.reduceLE, Int.reduceEq, Nat.lt_irrefl, Nat.zero_lt_succ, Nat.reduceMul, Int.reduceNeg, Bool.false_eq_true, if_true, if_false, Nat.zero_add, nlit, eq_self, decide_true, decide_false, reduceIte, Bool.or_false, Bool.false_or, Bool.true_or, Bool.or_true, Bool.and_true, Bool.true_and, Bool.and_false, Bool.false_and, Bool.not_true, Bool.not_false, List.all_cons, List.all_nil, List.any_cons, List.any_nil]
end My

namespace My
theorem forall_cons {α : Type} {p : α → Prop} {a : α} {l : List α} (h : p a) (g : ∀ x ∈ l, p x) : ∀ x ∈ a :: l, p x := fun x hx => by
  rcases List.mem_cons.mp hx with rfl | hx
  · exact h
  · exact g x hx
end My
namespace My.K69
open PySem PySem.Spec PyProof.Rows L2 My
def ds : List Df := [Lib.df_is_integer, Lib.df_is_ascending, Lib.df_joined_digits, Lib.df_show_step, Lib.df_show_run, Lib.df_read_digit, Lib.df_read_digits, Lib.df_read_step, Lib.df_read_run, Lib.df__law_pool, Lib.df__law_draw, Lib.df__law_same, Lib.df__law_glued, Lib.df__law_step_text, Lib.df__law_any_step, Lib.df_law_3]
def cs : List (Str × D) := [("DIGITS", (.str "0123456789")), ("MOST_STEPS", (.int 1000))]
theorem fd_is_integer : findD ds Lib.df_is_integer.name = some Lib.df_is_integer := by kernel_rfl
theorem fd_is_ascending : findD ds Lib.df_is_ascending.name = some Lib.df_is_ascending := by kernel_rfl
theorem fd_joined_digits : findD ds Lib.df_joined_digits.name = some Lib.df_joined_digits := by kernel_rfl
theorem fd_show_step : findD ds Lib.df_show_step.name = some Lib.df_show_step := by kernel_rfl
theorem fd_show_run : findD ds Lib.df_show_run.name = some Lib.df_show_run := by kernel_rfl
theorem fd_read_digit : findD ds Lib.df_read_digit.name = some Lib.df_read_digit := by kernel_rfl
theorem fd_read_digits : findD ds Lib.df_read_digits.name = some Lib.df_read_digits := by kernel_rfl
theorem fd_read_step : findD ds Lib.df_read_step.name = some Lib.df_read_step := by kernel_rfl
theorem fd_read_run : findD ds Lib.df_read_run.name = some Lib.df_read_run := by kernel_rfl
theorem fd__law_pool : findD ds Lib.df__law_pool.name = some Lib.df__law_pool := by kernel_rfl
theorem fd__law_draw : findD ds Lib.df__law_draw.name = some Lib.df__law_draw := by kernel_rfl
theorem fd__law_same : findD ds Lib.df__law_same.name = some Lib.df__law_same := by kernel_rfl
theorem fd__law_glued : findD ds Lib.df__law_glued.name = some Lib.df__law_glued := by kernel_rfl
theorem fd__law_step_text : findD ds Lib.df__law_step_text.name = some Lib.df__law_step_text := by kernel_rfl
theorem fd__law_any_step : findD ds Lib.df__law_any_step.name = some Lib.df__law_any_step := by kernel_rfl
theorem fd_law : findD ds Lib.df_law_3.name = some Lib.df_law_3 := by kernel_rfl
abbrev R : PySem.W.OpenRow := PySem.W.OpenLaw.row PySem.Challenge.rw_heldwrites_k69_runs_as_texts
abbrev t_is_integer : Stmt := PySem.Challenge.pw_heldwrites_k69_runs_as_texts.main.body.getD 4 (.Pass ⟨0, 0, 0, 0⟩)
def dd_is_integer : He.DefD := ⟨("is_integer", none), "is_integer", "is_integer", defArgs t_is_integer, defBody t_is_integer, defScope t_is_integer, [], []⟩
def en_is_integer : Ent := ⟨Lib.df_is_integer, dd_is_integer, ["thing"]⟩
theorem ok_is_integer : entB en_is_integer = true := by decide +kernel
theorem bi_is_integer : BindsE en_is_integer := fun _ _ _ _ _ _ us hl => match us, hl with | [_], _ => rfl
abbrev t_is_ascending : Stmt := PySem.Challenge.pw_heldwrites_k69_runs_as_texts.main.body.getD 5 (.Pass ⟨0, 0, 0, 0⟩)
def dd_is_ascending : He.DefD := ⟨("is_ascending", none), "is_ascending", "is_ascending", defArgs t_is_ascending, defBody t_is_ascending, defScope t_is_ascending, [], []⟩
def en_is_ascending : Ent := ⟨Lib.df_is_ascending, dd_is_ascending, ["thing", "limit", "least", "number"]⟩
theorem ok_is_ascending : entB en_is_ascending = true := by decide +kernel
theorem bi_is_ascending : BindsE en_is_ascending := fun _ _ _ _ _ _ us hl => match us, hl with | [_, _], _ => rfl
abbrev t_joined_digits : Stmt := PySem.Challenge.pw_heldwrites_k69_runs_as_texts.main.body.getD 9 (.Pass ⟨0, 0, 0, 0⟩)
def dd_joined_digits : He.DefD := ⟨("joined_digits", none), "joined_digits", "joined_digits", defArgs t_joined_digits, defBody t_joined_digits, defScope t_joined_digits, [], []⟩
def en_joined_digits : Ent := ⟨Lib.df_joined_digits, dd_joined_digits, ["numbers", "number"]⟩
theorem ok_joined_digits : entB en_joined_digits = true := by decide +kernel
theorem bi_joined_digits : BindsE en_joined_digits := fun _ _ _ _ _ _ us hl => match us, hl with | [_], _ => rfl
abbrev t_show_step : Stmt := PySem.Challenge.pw_heldwrites_k69_runs_as_texts.main.body.getD 10 (.Pass ⟨0, 0, 0, 0⟩)
def dd_show_step : He.DefD := ⟨("show_step", none), "show_step", "show_step", defArgs t_show_step, defBody t_show_step, defScope t_show_step, [], []⟩
def en_show_step : Ent := ⟨Lib.df_show_step, dd_show_step, ["step"]⟩
theorem ok_show_step : entB en_show_step = true := by decide +kernel
theorem bi_show_step : BindsE en_show_step := fun _ _ _ _ _ _ us hl => match us, hl with | [_], _ => rfl
abbrev t_show_run : Stmt := PySem.Challenge.pw_heldwrites_k69_runs_as_texts.main.body.getD 11 (.Pass ⟨0, 0, 0, 0⟩)
def dd_show_run : He.DefD := ⟨("show_run", none), "show_run", "show_run", defArgs t_show_run, defBody t_show_run, defScope t_show_run, [], []⟩
def en_show_run : Ent := ⟨Lib.df_show_run, dd_show_run, ["run", "step"]⟩
theorem ok_show_run : entB en_show_run = true := by decide +kernel
theorem bi_show_run : BindsE en_show_run := fun _ _ _ _ _ _ us hl => match us, hl with | [_], _ => rfl
abbrev t_read_digit : Stmt := PySem.Challenge.pw_heldwrites_k69_runs_as_texts.main.body.getD 12 (.Pass ⟨0, 0, 0, 0⟩)
def dd_read_digit : He.DefD := ⟨("read_digit", none), "read_digit", "read_digit", defArgs t_read_digit, defBody t_read_digit, defScope t_read_digit, [], []⟩
def en_read_digit : Ent := ⟨Lib.df_read_digit, dd_read_digit, ["text"]⟩
theorem ok_read_digit : entB en_read_digit = true := by decide +kernel
theorem bi_read_digit : BindsE en_read_digit := fun _ _ _ _ _ _ us hl => match us, hl with | [_], _ => rfl
abbrev t_read_digits : Stmt := PySem.Challenge.pw_heldwrites_k69_runs_as_texts.main.body.getD 13 (.Pass ⟨0, 0, 0, 0⟩)
def dd_read_digits : He.DefD := ⟨("read_digits", none), "read_digits", "read_digits", defArgs t_read_digits, defBody t_read_digits, defScope t_read_digits, [], []⟩
def en_read_digits : Ent := ⟨Lib.df_read_digits, dd_read_digits, ["texts", "numbers", "text"]⟩
theorem ok_read_digits : entB en_read_digits = true := by decide +kernel
theorem bi_read_digits : BindsE en_read_digits := fun _ _ _ _ _ _ us hl => match us, hl with | [_], _ => rfl
abbrev t_read_step : Stmt := PySem.Challenge.pw_heldwrites_k69_runs_as_texts.main.body.getD 14 (.Pass ⟨0, 0, 0, 0⟩)
def dd_read_step : He.DefD := ⟨("read_step", none), "read_step", "read_step", defArgs t_read_step, defBody t_read_step, defScope t_read_step, [], []⟩
def en_read_step : Ent := ⟨Lib.df_read_step, dd_read_step, ["text", "words", "offsets"]⟩
theorem ok_read_step : entB en_read_step = true := by decide +kernel
theorem bi_read_step : BindsE en_read_step := fun _ _ _ _ _ _ us hl => match us, hl with | [_], _ => rfl
abbrev t_read_run : Stmt := PySem.Challenge.pw_heldwrites_k69_runs_as_texts.main.body.getD 15 (.Pass ⟨0, 0, 0, 0⟩)
def dd_read_run : He.DefD := ⟨("read_run", none), "read_run", "read_run", defArgs t_read_run, defBody t_read_run, defScope t_read_run, [], []⟩
def en_read_run : Ent := ⟨Lib.df_read_run, dd_read_run, ["text", "run", "part", "step"]⟩
theorem ok_read_run : entB en_read_run = true := by decide +kernel
theorem bi_read_run : BindsE en_read_run := fun _ _ _ _ _ _ us hl => match us, hl with | [_], _ => rfl
abbrev t__law_pool : Stmt := PySem.Challenge.pw_heldwrites_k69_runs_as_texts.main.body.getD 17 (.Pass ⟨0, 0, 0, 0⟩)
def dd__law_pool : He.DefD := ⟨("_law_pool", none), "_law_pool", "_law_pool", defArgs t__law_pool, defBody t__law_pool, defScope t__law_pool, [], []⟩
def en__law_pool : Ent := ⟨Lib.df__law_pool, dd__law_pool, ["script", "edge", "cells", "cell"]⟩
theorem ok__law_pool : entB en__law_pool = true := by decide +kernel
theorem bi__law_pool : BindsE en__law_pool := fun _ _ _ _ _ _ us hl => match us, hl with | [_], _ => rfl
abbrev t__law_draw : Stmt := PySem.Challenge.pw_heldwrites_k69_runs_as_texts.main.body.getD 18 (.Pass ⟨0, 0, 0, 0⟩)
def dd__law_draw : He.DefD := ⟨("_law_draw", none), "_law_draw", "_law_draw", defArgs t__law_draw, defBody t__law_draw, defScope t__law_draw, [], []⟩
def en__law_draw : Ent := ⟨Lib.df__law_draw, dd__law_draw, ["pool", "limit", "k", "great", "small", "cell", "mixed", "digit"]⟩
theorem ok__law_draw : entB en__law_draw = true := by decide +kernel
theorem bi__law_draw : BindsE en__law_draw := fun _ _ _ _ _ _ us hl => match us, hl with | [_, _], _ => rfl
abbrev t__law_same : Stmt := PySem.Challenge.pw_heldwrites_k69_runs_as_texts.main.body.getD 19 (.Pass ⟨0, 0, 0, 0⟩)
def dd__law_same : He.DefD := ⟨("_law_same", none), "_law_same", "_law_same", defArgs t__law_same, defBody t__law_same, defScope t__law_same, [], []⟩
def en__law_same : Ent := ⟨Lib.df__law_same, dd__law_same, ["found", "due", "one", "two"]⟩
theorem ok__law_same : entB en__law_same = true := by decide +kernel
theorem bi__law_same : BindsE en__law_same := fun _ _ _ _ _ _ us hl => match us, hl with | [_, _], _ => rfl
abbrev t__law_glued : Stmt := PySem.Challenge.pw_heldwrites_k69_runs_as_texts.main.body.getD 21 (.Pass ⟨0, 0, 0, 0⟩)
def dd__law_glued : He.DefD := ⟨("_law_glued", none), "_law_glued", "_law_glued", defArgs t__law_glued, defBody t__law_glued, defScope t__law_glued, [], []⟩
def en__law_glued : Ent := ⟨Lib.df__law_glued, dd__law_glued, ["numbers", "k"]⟩
theorem ok__law_glued : entB en__law_glued = true := by decide +kernel
theorem bi__law_glued : BindsE en__law_glued := fun _ _ _ _ _ _ us hl => match us, hl with | [_], _ => rfl
abbrev t__law_step_text : Stmt := PySem.Challenge.pw_heldwrites_k69_runs_as_texts.main.body.getD 24 (.Pass ⟨0, 0, 0, 0⟩)
def dd__law_step_text : He.DefD := ⟨("_law_step_text", none), "_law_step_text", "_law_step_text", defArgs t__law_step_text, defBody t__law_step_text, defScope t__law_step_text, [], []⟩
def en__law_step_text : Ent := ⟨Lib.df__law_step_text, dd__law_step_text, ["step"]⟩
theorem ok__law_step_text : entB en__law_step_text = true := by decide +kernel
theorem bi__law_step_text : BindsE en__law_step_text := fun _ _ _ _ _ _ us hl => match us, hl with | [_], _ => rfl
abbrev t__law_any_step : Stmt := PySem.Challenge.pw_heldwrites_k69_runs_as_texts.main.body.getD 25 (.Pass ⟨0, 0, 0, 0⟩)
def dd__law_any_step : He.DefD := ⟨("_law_any_step", none), "_law_any_step", "_law_any_step", defArgs t__law_any_step, defBody t__law_any_step, defScope t__law_any_step, [], []⟩
def en__law_any_step : Ent := ⟨Lib.df__law_any_step, dd__law_any_step, ["pool", "number", "least", "rest", "k"]⟩
theorem ok__law_any_step : entB en__law_any_step = true := by decide +kernel
theorem bi__law_any_step : BindsE en__law_any_step := fun _ _ _ _ _ _ us hl => match us, hl with | [_], _ => rfl
abbrev t_law : Stmt := PySem.Challenge.pw_heldwrites_k69_runs_as_texts.main.body.getD 26 (.Pass ⟨0, 0, 0, 0⟩)
def dd_law : He.DefD := ⟨("law", none), "law", "law", defArgs t_law, defBody t_law, defScope t_law, [], []⟩
def en_law : Ent := ⟨Lib.df_law_3, dd_law, ["script", "pool", "many", "rows", "text", "lent", "told", "extra", "k", "step"]⟩
theorem ok_law : entB en_law = true := by decide +kernel
theorem bi_law : BindsE en_law := fun _ _ _ _ _ _ us hl => match us, hl with | [_], _ => rfl
def Tb : List Ent := [en_is_integer, en_is_ascending, en_joined_digits, en_show_step, en_show_run, en_read_digit, en_read_digits, en_read_step, en_read_run, en__law_pool, en__law_draw, en__law_same, en__law_glued, en__law_step_text, en__law_any_step, en_law]
theorem Tb_ok : Tb.all entB = true := by
  simp only [Tb, List.all_cons, List.all_nil, Bool.and_true, Bool.and_eq_true]
  exact ⟨ok_is_integer, ok_is_ascending, ok_joined_digits, ok_show_step, ok_show_run, ok_read_digit, ok_read_digits, ok_read_step, ok_read_run, ok__law_pool, ok__law_draw, ok__law_same, ok__law_glued, ok__law_step_text, ok__law_any_step, ok_law⟩
theorem Tb_bi : ∀ e ∈ Tb, BindsE e := forall_cons bi_is_integer (forall_cons bi_is_ascending (forall_cons bi_joined_digits (forall_cons bi_show_step (forall_cons bi_show_run (forall_cons bi_read_digit (forall_cons bi_read_digits (forall_cons bi_read_step (forall_cons bi_read_run (forall_cons bi__law_pool (forall_cons bi__law_draw (forall_cons bi__law_same (forall_cons bi__law_glued (forall_cons bi__law_step_text (forall_cons bi__law_any_step (forall_cons bi_law (fun _ h => by cases h))))))))))))))))
def loose0 : List PySem.Str := ["GatherError", "BadText", "is_integer", "is_ascending", "DIGITS", "MOST_STEPS", "joined_digits", "show_step", "show_run", "read_digit", "read_digits", "read_step", "read_run", "_law_pool", "_law_draw", "_law_same", "_law_commas", "_law_glued", "_law_ways_text", "_law_row_text", "_law_step_text", "_law_any_step"]
def loose : List PySem.Str := loose0
theorem run (w : World) : HandSHeadRun.RunEq R (PySem.W.view R.prog [26]) (hkOf Tb cs) (obOf Tb cs) 4000 loose w := by
  intro os
  kernel_rfl
theorem law_mem : en_law ∈ Tb := by simp [Tb]
theorem ft : FT ds (conOf cs) := ⟨fd__law_draw, fd__law_pool, fd__law_same, fd__law_glued, fd__law_step_text, fd__law_any_step, fd_joined_digits, fd_show_step, fd_show_run, fd_read_digit, fd_read_digits, fd_read_step, fd_read_run, fd_is_ascending, fd_is_integer, by kernel_rfl, by kernel_rfl⟩
end My.K69
open PySem PySem.W PySem.Calls PyProof.Rows
theorem PySem.Challenge.cw_heldwrites_k69_runs_as_texts_holds : PySem.Challenge.rw_heldwrites_k69_runs_as_texts.Holds := by
  w_on; o_law
  refine HandSHeadRun.head_any (r := OpenLaw.row PySem.Challenge.rw_heldwrites_k69_runs_as_texts) (q := view (OpenLaw.row PySem.Challenge.rw_heldwrites_k69_runs_as_texts).prog [26]) (H := My.hkOf My.K69.Tb My.K69.cs) (ob := My.obOf My.K69.Tb My.K69.cs) (M := 4000) (loose := My.K69.loose) (d := HandSHeadRun.topDef (OpenLaw.row PySem.Challenge.rw_heldwrites_k69_runs_as_texts).prog 26) (kwd := []) (My.obOf_eq My.K69.Tb My.K69.cs)
    (by kernel_rfl) (fun s => by kernel_rfl) My.K69.run (by kernel_rfl) (by kernel_rfl) (by kernel_rfl) (by rfl) (by first | assumption | decide +kernel) (by decide +kernel) ⟨rfl, rfl, rfl, rfl, rfl, by decide +kernel⟩ ?hw ?hc
  case hw => w_witness2
  case hc => exact My.walk_my (l := PySem.Challenge.rw_heldwrites_k69_runs_as_texts) (k := 19) (fuel := 100000) (x := "script") My.K69.en_law rfl (by decide +kernel) ⟨rfl, by decide, by decide⟩ (by kernel_rfl) My.K69.law_mem rfl My.K69.fd_law My.K69.Tb_ok My.K69.Tb_bi fun ns hn => (My.law69 (k := 14) (dl := My.Lib.df_law_3) My.K69.ft My.K69.fd_law ⟨rfl, rfl, rfl⟩ rfl hn).elim fun a h => h.elim fun S2 h => ⟨S2, by rw [← h.2]; exact h.1⟩
