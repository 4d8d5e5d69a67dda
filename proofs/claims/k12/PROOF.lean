import PyProof.Rows.All
import Wide.FinOn
import OpenK.AllK
import KE.KStateDown
import HandS.Ends
import HandS.Words
import HandS.WordsExc
import HandS.More
import HandS.HeadHook1
import HandS.HeadHook2
import HandS.HeadHook3
import HandS.HeadHook4
import HandS.Head0
import HandS.Head1
import HandS.Head2
import HandS.HeadEnd
import HandS.ForMost
import HandS.TupAny
import HandS.TupMul
import HandS.IsInst
import HandS.Style
import HandS.Wide
import HandS.Zip
import HandS.AnyAll
import HandS.Conv
import HandS.Defaults
import HandS.NoneIn
import KE.KUnpackStar
import KE.DataEq
import KE.DataAny
import PySem.Challenge.RW_mighthave_k12_what_is_a_test
set_option Elab.async false
set_option linter.all false
set_option maxRecDepth 100000
set_option maxHeartbeats 4000000
/-! ## M0: a small pure language: data, store, syntax, weakest preconditions -/
namespace Mi
open PySem

/-- data: trees; ro: a list that is read alone (the script); loc a: a mutable list or dict of the store; glo x: what the module's name x stands for -/
inductive D where
  | non | bl (b : Bool) | int (i : Int) | str (x : Str)
  | tup (xs : List D) | lst (xs : List D) | ro (xs : List D) | dct (ks vs : List D) | loc (a : Nat) | glo (x : Str)
  /-- a table of the module with text keys -/
  | tab (ks : List Str) (vs : List D)

mutual
def D.eqv : D → D → Bool
  | .non, .non => true
  | .bl a, .bl b => a == b
  | .bl a, .int j => (if a then 1 else 0) == j
  | .int i, .bl b => i == (if b then 1 else 0)
  | .int i, .int j => i == j
  | .str x, .str y => x == y
  | .lst xs, .lst ys => D.eqvs xs ys
  | .tup xs, .tup ys => D.eqvs xs ys
  | _, _ => false
def D.eqvs : List D → List D → Bool
  | [], [] => true
  | x :: xs, y :: ys => D.eqv x y && D.eqvs xs ys
  | _, _ => false
end
mutual
/-- data that the kit's rules of == and repr speak of -/
def D.pure : D → Bool
  | .non | .bl _ | .int _ | .str _ => true
  | .tup xs | .lst xs => D.pures xs
  | _ => false
def D.pures : List D → Bool
  | [] => true
  | x :: xs => D.pure x && D.pures xs
end
mutual
def D.pd : D → PyData
  | .non => .none
  | .bl b => .bool b
  | .int i => .int i
  | .str x => .str x
  | .tup xs => .tuple (D.pds xs)
  | .lst xs => .list (D.pds xs)
  | _ => .none
def D.pds : List D → List PyData
  | [] => []
  | x :: xs => D.pd x :: D.pds xs
end
mutual
def D.depth : D → Nat
  | .tup xs | .lst xs => D.depths xs + 1
  | _ => 0
def D.depths : List D → Nat
  | [] => 0
  | x :: xs => Nat.max (D.depth x) (D.depths xs)
end

abbrev Ev := List (Option D)
inductive Cell where
  | lst (xs : List D)
  | dic (ks vs : List D)
abbrev Store := Nat → Option Cell
def Store.up (st : Store) (a : Nat) (c : Cell) : Store := fun b => if b = a then some c else st b
/-- what is read where d stands -/
def der (st : Store) : D → D
  | .loc a => match st a with
    | some (.lst xs) => .lst xs
    | some (.dic ks vs) => .dct ks vs
    | none => .loc a
  | d => d
def lk : Ev → Nat → Option D
  | [], _ => none
  | x :: _, 0 => x
  | _ :: r, n + 1 => lk r n
def sv : Ev → Nat → Option D → Ev
  | [], _, _ => []
  | _ :: r, 0, d => d :: r
  | x :: r, n + 1, d => x :: sv r n d

inductive Op2 where
  | add | addL | sub | mul | mulL | fdiv | mod | pow
  deriving DecidableEq
inductive Cm where
  | eq | ne | lt | le | gt | ge | inn | nin | is_ | isnt
  deriving DecidableEq
inductive Bi where
  | len | abs | int | all | any | sum | min1 | min2 | max1 | max2 | sorted | sortedL | list | listL | tuple | dict | dictL | repr | str | range1 | range2
  deriving DecidableEq
inductive Mt where
  | append | pop | popAt | remove | index | count | get1 | get2 | extend | insert
  deriving DecidableEq
inductive Ty where
  | int | bool | str | tuple | list | dict
  deriving DecidableEq
inductive Tg where
  | name (i : Nat)
  | tup (is : List Nat)
  | star (is : List Nat) (k : Nat)
mutual
inductive E where
  | v (i : Nat) | int (i : Int) | str (x : Str) | bl (b : Bool) | non | glb (x : Str)
  | bin (o : Op2) (a b : E) | neg (a : E) | cmp (o : Cm) (a b : E) | chain (o o' : Cm) (a b c : E)
  | and_ (es : Es) | or_ (es : Es) | not_ (a : E) | ife (c a b : E)
  | ix (a i : E) | sl (a : E) (lo hi : Eo) | rev (a : E)
  | tup (es : Es) | lst (fr : Bool) (es : Es) | dic (fr : Bool) (ks vs : Es)
  | call (f : Str) (es : Es) | callk (f : Str) (es : Es) (n : Nat) (ks : List Str) (kes : Es)
  | bi (b : Bi) (es : Es) | mth (m : Mt) (o : E) (es : Es) | isi (a : E) (t : Ty)
  | lc (fr : Bool) (elt : E) (tg : Tg) (it : It) (c : Eo) (own : List Nat)
inductive Es where
  | nil | cons (e : E) (es : Es)
inductive Eo where
  | none | some (e : E)
inductive It where
  | e (a : E) | rng1 (a : E) | rng2 (a b : E) | enum (a : E) | zip (a b : E)
end
mutual
inductive S where
  | asg (tg : Tg) (e : E)
  | par (is : List Nat) (es : Es)
  | setix (o i e : E)
  | aug (i : Nat) (o : Op2) (e : E)
  | augix (o i : E) (op : Op2) (e : E)
  | ex (e : E)
  | ret (e : E)
  | ret0
  | ife (c : E) (a b : Ss)
  | for_ (tg : Tg) (it : It) (b : Ss)
  | while_ (c : E) (b : Ss)
  | brk | pass
  | raise_ (cls : Str) (e : E)
inductive Ss where
  | nil | cons (s : S) (ss : Ss)
end

def Es.len : Es → Nat
  | .nil => 0
  | .cons _ es => es.len + 1
def ss : List S → Ss
  | [] => .nil
  | s :: r => .cons s (ss r)
/-- what an exception is told as: (its class's name, its value) -/
abbrev XK := D → Store → Prop
abbrev QD := D → Store → Prop
structure Ctx where
  call : Str → List D → Store → XK → QD → Prop
  glb : Str → Option D
  /-- how keywords come to places: the def's name, how many by place, the keywords' names: the list of all arguments, in the def's order -/
  kw : Str → Nat → List Str → List Nat

def pickL {α : Type} (is : List Nat) (l : List α) : List α := is.filterMap fun i => l[i]?
/-! ### operations by values -/
def big : Nat := 1000000
/-- a * b, a ** n as the kit can tell them -/
def mulOk (i j : Int) : Prop := i.natAbs.log2 + j.natAbs.log2 < 1000000
def powOk (i n : Int) : Prop := 0 ≤ n ∧ (Builtin.Int.intBits i : Int) * n ≤ 2 ^ 27
def divOk (j : Int) : Prop := 0 < j ∧ j.natAbs.log2 < 9000
/-- .. in place -/
def mulA (i j : Int) : Prop := (-(2 ^ 64) < i ∧ i < 2 ^ 64) ∨ (-(2 ^ 64) < j ∧ j < 2 ^ 64)
def divA (j : Int) : Prop := 0 < j ∧ j < 1073741824
def repL : Nat → List D → List D
  | 0, _ => []
  | n + 1, xs => xs ++ repL n xs
/-- a new mutable list -/
def newL (xs : List D) (st : Store) (Q : QD) : Prop := ∀ p, st p = none → Q (.loc p) (st.up p (.lst xs))
def newD (ks vs : List D) (st : Store) (Q : QD) : Prop := ∀ p, st p = none → Q (.loc p) (st.up p (.dic ks vs))
def binW (o : Op2) (x y : D) (st : Store) (Q : QD) : Prop :=
  match o, der st x, der st y with
  | .add, .int i, .int j => Q (.int (i + j)) st
  | .add, .tup a, .tup b => a.length + b.length ≤ big ∧ Q (.tup (a ++ b)) st
  | .add, .lst a, .lst b => a.length + b.length ≤ big ∧ Q (.lst (a ++ b)) st
  | .addL, .lst a, .lst b => a.length + b.length ≤ big ∧ newL (a ++ b) st Q
  | .add, .str a, .str b => a.length + b.length ≤ big ∧ Q (.str (a ++ b)) st
  | .sub, .int i, .int j => Q (.int (i - j)) st
  | .mul, .int i, .int j => mulOk i j ∧ Q (.int (i * j)) st
  | .mul, .tup a, .int j => (a ≠ [] ∧ 2 ≤ j ∧ j ≤ 1000 ∧ a.length ≤ 1000) ∧ Q (.tup (repL j.toNat a)) st
  | .mul, .lst a, .int j => (-(2 ^ 63) ≤ j ∧ j ≤ big ∧ a.length * j.toNat ≤ big) ∧ Q (.lst (repL j.toNat a)) st
  | .mulL, .lst a, .int j => (-(2 ^ 63) ≤ j ∧ j ≤ big ∧ a.length * j.toNat ≤ big) ∧ newL (repL j.toNat a) st Q
  | .fdiv, .int i, .int j => divOk j ∧ Q (.int (i / j)) st
  | .mod, .int i, .int j => 0 < j ∧ Q (.int (i % j)) st
  | .pow, .int i, .int j => powOk i j ∧ Q (.int (i ^ j.toNat)) st
  | _, _, _ => False
/-- x op= y, of what doesn't change in place -/
def augW (o : Op2) (x y : D) (st : Store) (Q : QD) : Prop :=
  match o, x, y with
  | .add, .int i, .int j => Q (.int (i + j)) st
  | .sub, .int i, .int j => Q (.int (i - j)) st
  | .mul, .int i, .int j => mulA i j ∧ Q (.int (i * j)) st
  | .fdiv, .int i, .int j => divA j ∧ Q (.int (i / j)) st
  | .mod, .int i, .int j => 0 < j ∧ Q (.int (i % j)) st
  | .add, .str a, .str b => a.length + b.length ≤ big ∧ Q (.str (a ++ b)) st
  | _, _, _ => False
def inD (x : D) : List D → Bool
  | [] => false
  | y :: ys => D.eqv y x || inD x ys
def strIn (i j : Str) : Bool := !(Builtin.Str.occurrences j i 0 j.length 1).isEmpty
def shallow (x y : D) : Prop := x.depth ≤ 60 ∨ y.depth ≤ 60
mutual
def D.lt : D → D → Bool
  | .bl a, .bl b => decide ((if a then (1 : Int) else 0) < (if b then 1 else 0))
  | .int i, .int j => decide (i < j)
  | .str x, .str y => decide (x.cps.toList < y.cps.toList)
  | .tup xs, .tup ys => D.lts xs ys
  | .lst xs, .lst ys => D.lts xs ys
  | _, _ => false
def D.lts : List D → List D → Bool
  | [], _ :: _ => true
  | x :: xs, y :: ys => if D.eqv x y then D.lts xs ys else D.lt x y
  | _, _ => false
end
/-- a comparison's answer -/
def eqW (x y : D) (P : Bool → Prop) : Prop :=
  match x, y with
  | .tup xs, .tup [] => P xs.isEmpty
  | .lst xs, .lst [] => P xs.isEmpty
  | x, y => x.pure = true ∧ y.pure = true ∧ shallow x y ∧ P (D.eqv x y)
def inW (x y : D) (P : Bool → Prop) : Prop :=
  match y with
  | .str j => match x with
    | .str i => P (strIn i j)
    | _ => False
  | .lst ys => (x.pure = true ∧ D.pures ys = true ∧ x.depth ≤ 60) ∧ P (inD x ys)
  | .tup ys => (x.pure = true ∧ D.pures ys = true ∧ x.depth ≤ 60) ∧ P (inD x ys)
  | .tab ks _ => match x with
    | .str z => P (ks.contains z)
    | _ => False
  | _ => False
def isNon : D → Bool
  | .non => true
  | _ => false
def isW (x y : D) (P : Bool → Prop) : Prop :=
  match y with
  | .non => P (isNon x)
  | .bl b => match x with
    | .bl a => P (a == b)
    | _ => False
  | _ => False
def ltW (x y : D) (P : Bool → Prop) : Prop :=
  match x, y with
  | .int i, .int j => P (decide (i < j))
  | .str i, .str j => P (decide (i.cps.toList < j.cps.toList))
  | _, _ => False
def ordW (f : Int → Int → Bool) (x y : D) (P : Bool → Prop) : Prop :=
  match x, y with
  | .int i, .int j => P (f i j)
  | _, _ => False
def cmpV (o : Cm) (x y : D) (P : Bool → Prop) : Prop :=
  match o with
  | .eq => eqW x y P
  | .ne => eqW x y fun b => P !b
  | .lt => ltW x y P
  | .le => ordW (fun i j => decide (i ≤ j)) x y P
  | .gt => ordW (fun i j => decide (j < i)) x y P
  | .ge => ordW (fun i j => decide (j ≤ i)) x y P
  | .inn => inW x y P
  | .nin => inW x y fun b => P !b
  | .is_ => isW x y P
  | .isnt => isW x y fun b => P !b
def cmpW (o : Cm) (x y : D) (st : Store) (P : Bool → Prop) : Prop := cmpV o (der st x) (der st y) P
/-- a place, counted from behind below 0 -/
def place (n : Nat) (i : Int) : Option Nat := if 0 ≤ i then (if i < n then some i.toNat else none) else if -(n : Int) ≤ i then some (i + n).toNat else none
def at_ (xs : List D) (i : Int) : Option D := (place xs.length i).bind fun j => xs[j]?
def ixW (x i : D) (st : Store) (Q : QD) : Prop :=
  match der st x, i with
  | .lst xs, .int k => ∃ d, at_ xs k = some d ∧ Q d st
  | .ro xs, .int k => ∃ d, at_ xs k = some d ∧ Q d st
  | .tup xs, .int k => ∃ d, at_ xs k = some d ∧ Q d st
  | _, _ => False
def clip (n d : Nat) : Option Int → Nat
  | none => d
  | some v => if v < 0 then (v + n).toNat else min v.toNat n
def cut (xs : List D) (lo hi : Option Int) : List D := (xs.drop (clip xs.length 0 lo)).take (clip xs.length xs.length hi - clip xs.length 0 lo)
def slW (x : D) (lo hi : Option Int) (st : Store) (Q : QD) : Prop :=
  match der st x with
  | .lst xs => Q (.lst (cut xs lo hi)) st
  | .tup xs => Q (.tup (cut xs lo hi)) st
  | _ => False
def revW (x : D) (st : Store) (Q : QD) : Prop :=
  match der st x with
  | .lst xs => Q (.lst xs.reverse) st
  | .tup xs => Q (.tup xs.reverse) st
  | _ => False
def allB : List D → Option (List Bool)
  | [] => some []
  | .bl b :: r => (allB r).map (b :: ·)
  | _ :: _ => none
def intsD : List D → Option (List Int)
  | [] => some []
  | .int i :: r => (intsD r).map (i :: ·)
  | _ :: _ => none
def rngD (lo hi : Int) : List D := (List.range (hi - lo).toNat).map fun (k : Nat) => .int (lo + (k : Int))
/-- what is walked: the items -/
def itemsOf (d : D) : Option (List D) :=
  match d with
  | .lst xs => some xs
  | .ro xs => some xs
  | .tup xs => some xs
  | .str x => some (x.cps.toList.map fun c => .str ⟨#[c]⟩)
  | _ => none
def smallI (i : Int) : Prop := -(2 ^ 62) ≤ i ∧ i < 2 ^ 62
def D.isSeq : D → Bool
  | .tup _ | .lst _ => true
  | _ => false
def shows (d : D) : Prop := d.pure = true ∧ d.pd.showable = true ∧ d.depth ≤ 60 ∧ d.pd.shown.length ≤ big
def lenW (d : D) (P : Int → Prop) : Prop :=
  match d with
  | .lst xs => P xs.length
  | .ro xs => P xs.length
  | .tup xs => P xs.length
  | .str x => x.length ≤ big ∧ P x.length
  | _ => False
def absW (d : D) (P : Int → Prop) : Prop :=
  match d with
  | .int i => P (if i < 0 then -i else i)
  | _ => False
def intW (d : D) (P : Int → Prop) : Prop :=
  match d with
  | .int i => P i
  | .bl b => P (if b then 1 else 0)
  | _ => False
def boolsW (d : D) (P : List Bool → Prop) : Prop :=
  match d with
  | .lst xs => ∃ bs, allB xs = some bs ∧ P bs
  | _ => False
def sumW (d : D) (P : Int → Prop) : Prop :=
  match d with
  | .lst xs => ∃ ns, intsD xs = some ns ∧ P ns.sum
  | _ => False
def seqW (d : D) (P : List D → Prop) : Prop :=
  match d with
  | .lst xs => P xs
  | .tup xs => P xs
  | _ => False
def bi1 (b : Bi) (d : D) (st : Store) (Q : QD) : Prop :=
  match b with
  | .len => lenW d fun i => Q (.int i) st
  | .abs => absW d fun i => Q (.int i) st
  | .int => intW d fun i => Q (.int i) st
  | .all => boolsW d fun bs => Q (.bl (bs.all id)) st
  | .any => boolsW d fun bs => Q (.bl (bs.any id)) st
  | .sum => sumW d fun i => Q (.int i) st
  | .list => seqW d fun xs => Q (.lst xs) st
  | .listL => seqW d fun xs => newL xs st Q
  | .tuple => seqW d fun xs => Q (.tup xs) st
  | .repr => (d.isSeq = true ∧ shows d) ∧ Q (.str d.pd.shown) st
  | _ => False
def bi2 (b : Bi) (d e : D) (st : Store) (Q : QD) : Prop :=
  match b with
  | .max2 => ordW (fun i j => decide (j > i)) d e fun k => Q (if k then e else d) st
  | .min2 => ordW (fun i j => decide (j < i)) d e fun k => Q (if k then e else d) st
  | _ => False
def biW (b : Bi) (xs : List D) (st : Store) (Q : QD) : Prop :=
  match xs with
  | [x] => bi1 b (der st x) st Q
  | [x, y] => bi2 b (der st x) (der st y) st Q
  | _ => False
def mthW (m : Mt) (o : D) (xs : List D) (st : Store) (Q : QD) : Prop :=
  match m, o, xs with
  | .append, .loc a, [x] => ∃ ys, st a = some (.lst ys) ∧ ys.length < big ∧ Q .non (st.up a (.lst (ys ++ [x])))
  | .popAt, .loc a, [.int i] => ∃ ys k y, st a = some (.lst ys) ∧ smallI i ∧ place ys.length i = some k ∧ ys[k]? = some y ∧ Q y (st.up a (.lst (ys.eraseIdx k)))
  | .pop, .loc a, [] => ∃ ys y, st a = some (.lst ys) ∧ ys[ys.length - 1]? = some y ∧ Q y (st.up a (.lst ys.dropLast))
  | _, _, _ => False
/-- what a method is asked of -/
def recv (m : Mt) (o : D) (st : Store) : Prop :=
  match m, o with
  | .append, .loc a => ∃ ys, st a = some (.lst ys)
  | .pop, .loc a => ∃ ys, st a = some (.lst ys)
  | .popAt, .loc a => ∃ ys, st a = some (.lst ys)
  | _, _ => False
def isT : Ty → D → Option Bool
  | _, .loc _ => none
  | _, .ro _ => none
  | _, .glo _ => none
  | _, .tab _ _ => none
  | .int, .int _ => some true
  | .int, .bl _ => some true
  | .bool, .bl _ => some true
  | .str, .str _ => some true
  | .tuple, .tup _ => some true
  | .list, .lst _ => some true
  | .dict, .dct _ _ => some true
  | _, _ => some false
/-- what a target stores -/
def stores : List Nat → List D → Ev → Option Ev
  | [], [], ρ => some ρ
  | i :: is, x :: xs, ρ => stores is xs (sv ρ i (some x))
  | _, _, _ => none
def tgW (t : Tg) (x : D) (ρ : Ev) (st : Store) (Q : Ev → Store → Prop) : Prop :=
  match t with
  | .name i => Q (sv ρ i (some x)) st
  | .tup is => match der st x with
    | .tup xs => ∃ ρ', stores is xs ρ = some ρ' ∧ Q ρ' st
    | _ => False
  | .star is k => match der st x with
    | .tup xs => (is.length ≤ xs.length ∧ xs.length ≤ 10000) ∧ ∃ ρ', stores is (xs.take is.length) ρ = some ρ' ∧ Q (sv ρ' k (some (.lst (xs.drop is.length)))) st
    | _ => False
def wipeD (ρ : Ev) : List Nat → Ev
  | [] => ρ
  | i :: is => sv (wipeD ρ is) i none
/-- a comprehension's turns; g: the list that is walked stands -/
def lcW (g : Store → Prop) (turn : D → Store → (Option D → Store → Prop) → Prop) : List D → List D → Store → (List D → Store → Prop) → Prop
  | [], acc, st, Q => g st ∧ Q acc st
  | x :: xs, acc, st, Q => g st ∧ turn x st fun o st => match o with
    | some y => acc.length < big ∧ lcW g turn xs (acc ++ [y]) st Q
    | none => lcW g turn xs acc st Q

mutual
def wE (Γ : Ctx) : E → Ev → Store → XK → QD → Prop
  | .v i, ρ, st, _, Q => match lk ρ i with
    | some d => Q d st
    | none => False
  | .int i, _, st, _, Q => Q (.int i) st
  | .str x, _, st, _, Q => Q (.str x) st
  | .bl b, _, st, _, Q => Q (.bl b) st
  | .non, _, st, _, Q => Q .non st
  | .glb x, _, st, _, Q => match Γ.glb x with
    | some d => Q d st
    | none => False
  | .bin o a b, ρ, st, X, Q => wE Γ a ρ st X fun x st => wE Γ b ρ st X fun y st => binW o x y st Q
  | .neg a, ρ, st, X, Q => wE Γ a ρ st X fun x st => match x with
    | .int i => Q (.int (-i)) st
    | _ => False
  | .cmp o a b, ρ, st, X, Q => wE Γ a ρ st X fun x st => wE Γ b ρ st X fun y st => cmpW o x y st fun k => Q (.bl k) st
  | .chain o o' a b c, ρ, st, X, Q => wE Γ a ρ st X fun x st => wE Γ b ρ st X fun y st => cmpW o x y st fun k =>
      if k = true then wE Γ c ρ st X fun z st => cmpW o' y z st fun k => Q (.bl k) st else Q (.bl false) st
  | .and_ es, ρ, st, X, Q => wAnd Γ es ρ st X Q
  | .or_ es, ρ, st, X, Q => wOr Γ es ρ st X Q
  | .not_ a, ρ, st, X, Q => wE Γ a ρ st X fun x st => match x with
    | .bl b => Q (.bl !b) st
    | _ => False
  | .ife c a b, ρ, st, X, Q => wE Γ c ρ st X fun x st => match x with
    | .bl k => if k = true then wE Γ a ρ st X Q else wE Γ b ρ st X Q
    | _ => False
  | .ix a i, ρ, st, X, Q => wE Γ a ρ st X fun x st => wE Γ i ρ st X fun k st => ixW x k st Q
  | .sl a lo hi, ρ, st, X, Q => wE Γ a ρ st X fun x st => wEo Γ lo ρ st X fun l st => wEo Γ hi ρ st X fun h st => slW x l h st Q
  | .rev a, ρ, st, X, Q => wE Γ a ρ st X fun x st => revW x st Q
  | .tup es, ρ, st, X, Q => wEs Γ es ρ st X fun xs st => Q (.tup xs) st
  | .lst fr es, ρ, st, X, Q => wEs Γ es ρ st X fun xs st => if fr = true then Q (.lst xs) st else newL xs st Q
  | .dic fr ks vs, ρ, st, X, Q => match ks, vs with
    | .nil, .nil => if fr = true then Q (.dct [] []) st else newD [] [] st Q
    | _, _ => False
  | .call f es, ρ, st, X, Q => wEs Γ es ρ st X fun xs st => Γ.call f xs st X Q
  | .callk f es n ks kes, ρ, st, X, Q => wEs Γ es ρ st X fun xs st => wEs Γ kes ρ st X fun ys st => (xs.length = n ∧ ys.length = ks.length) ∧ Γ.call f (pickL (Γ.kw f n ks) (xs ++ ys)) st X Q
  | .bi b es, ρ, st, X, Q => wEs Γ es ρ st X fun xs st => biW b xs st Q
  | .mth m o es, ρ, st, X, Q => wE Γ o ρ st X fun x st => recv m x st ∧ wEs Γ es ρ st X fun xs st => mthW m x xs st Q
  | .isi a t, ρ, st, X, Q => wE Γ a ρ st X fun x st => match isT t (der st x) with
    | some k => Q (.bl k) st
    | none => False
  | .lc fr elt tg it c own, ρ, st, X, Q => wIt Γ it ρ st X fun items g st =>
      lcW g (fun x st K => tgW tg x (wipeD ρ own) st fun ρ st => wC Γ c ρ st X fun b st => if b = true then wE Γ elt ρ st X (fun y st => K (some y) st) else K none st) items [] st fun acc st =>
        if fr = true then Q (.lst acc) st else newL acc st Q
def wEs (Γ : Ctx) : Es → Ev → Store → XK → (List D → Store → Prop) → Prop
  | .nil, _, st, _, Q => Q [] st
  | .cons e es, ρ, st, X, Q => wE Γ e ρ st X fun x st => wEs Γ es ρ st X fun xs st => Q (x :: xs) st
def wAnd (Γ : Ctx) : Es → Ev → Store → XK → QD → Prop
  | .nil, _, _, _, _ => False
  | .cons e .nil, ρ, st, X, Q => wE Γ e ρ st X Q
  | .cons e (.cons e' es), ρ, st, X, Q => wE Γ e ρ st X fun x st => match x with
    | .bl b => if b = true then wAnd Γ (.cons e' es) ρ st X Q else Q (.bl false) st
    | _ => False
def wOr (Γ : Ctx) : Es → Ev → Store → XK → QD → Prop
  | .nil, _, _, _, _ => False
  | .cons e .nil, ρ, st, X, Q => wE Γ e ρ st X Q
  | .cons e (.cons e' es), ρ, st, X, Q => wE Γ e ρ st X fun x st => match x with
    | .bl b => if b = true then Q (.bl true) st else wOr Γ (.cons e' es) ρ st X Q
    | _ => False
def wEo (Γ : Ctx) : Eo → Ev → Store → XK → (Option Int → Store → Prop) → Prop
  | .none, _, st, _, Q => Q none st
  | .some e, ρ, st, X, Q => wE Γ e ρ st X fun x st => match x with
    | .int i => Q (some i) st
    | _ => False
/-- a comprehension's test -/
def wC (Γ : Ctx) : Eo → Ev → Store → XK → (Bool → Store → Prop) → Prop
  | .none, _, st, _, Q => Q true st
  | .some e, ρ, st, X, Q => wE Γ e ρ st X fun x st => match x with
    | .bl b => Q b st
    | _ => False
/-- what is walked: its items, and that what is walked stands as it stood -/
def wIt (Γ : Ctx) : It → Ev → Store → XK → (List D → (Store → Prop) → Store → Prop) → Prop
  | .e a, ρ, st, X, Q => wE Γ a ρ st X fun x st => ∃ xs, itemsOf (der st x) = some xs ∧ Q xs (fun st' => ∀ a, x = .loc a → st' a = st a) st
  | .rng1 a, ρ, st, X, Q => wE Γ a ρ st X fun x st => match x with
    | .int j => smallI j ∧ Q (rngD 0 j) (fun _ => True) st
    | _ => False
  | .rng2 a b, ρ, st, X, Q => wE Γ a ρ st X fun x st => wE Γ b ρ st X fun y st => match x, y with
    | .int i, .int j => (smallI i ∧ smallI j) ∧ Q (rngD i j) (fun _ => True) st
    | _, _ => False
  | .enum a, ρ, st, X, Q => wE Γ a ρ st X fun x st => ∃ xs, itemsOf (der st x) = some xs ∧ Q ((List.range xs.length).zip xs |>.map fun p => .tup [.int p.1, p.2]) (fun st' => ∀ a, x = .loc a → st' a = st a) st
  | .zip a b, ρ, st, X, Q => wE Γ a ρ st X fun x st => wE Γ b ρ st X fun y st => ∃ xs ys, itemsOf (der st x) = some xs ∧ itemsOf (der st y) = some ys ∧
      Q ((xs.zip ys).map fun p => .tup [p.1, p.2]) (fun st' => (∀ a, x = .loc a → st' a = st a) ∧ ∀ a, y = .loc a → st' a = st a) st
end

structure En where
  nx : Ev → Store → Prop
  rt : QD
  bk : Ev → Store → Prop
/-- a for's turns -/
def forW (g : Store → Prop) (tg : Tg) (body : Ev → Store → En → Prop) : List D → Ev → Store → En → Prop
  | [], ρ, st, R => g st ∧ R.nx ρ st
  | x :: xs, ρ, st, R => g st ∧ tgW tg x ρ st fun ρ st => body ρ st ⟨fun ρ st => forW g tg body xs ρ st R, R.rt, R.nx⟩
/-- a while's turns: W by a number that falls -/
def whileW (c : Ev → Store → (Bool → Store → Prop) → Prop) (body : Ev → Store → En → Prop) (ρ : Ev) (st : Store) (R : En) : Prop :=
  ∃ W : Nat → Ev → Store → Prop, (∃ m, W m ρ st) ∧ ∀ m ρ st, W m ρ st → c ρ st fun b st => if b = true then body ρ st ⟨fun ρ st => ∃ m', m' < m ∧ W m' ρ st, R.rt, R.nx⟩ else R.nx ρ st
/-- o[i] = x -/
def setW (o i x : D) (st : Store) (Q : Store → Prop) : Prop :=
  match o with
  | .loc a => match i, st a with
    | .int k, some (.lst ys) => ∃ j, place ys.length k = some j ∧ Q (st.up a (.lst (ys.set j x)))
    | _, _ => False
  | _ => False
mutual
def wS (Γ : Ctx) : S → Ev → Store → XK → En → Prop
  | .asg tg e, ρ, st, X, R => wE Γ e ρ st X fun x st => tgW tg x ρ st R.nx
  | .par is es, ρ, st, X, R => wEs Γ es ρ st X fun xs st => ∃ ρ', stores is xs ρ = some ρ' ∧ R.nx ρ' st
  | .setix o i e, ρ, st, X, R => wE Γ e ρ st X fun x st => wE Γ o ρ st X fun o st => wE Γ i ρ st X fun i st => setW o i x st fun st => R.nx ρ st
  | .aug i o e, ρ, st, X, R => ∃ x, lk ρ i = some x ∧ wE Γ e ρ st X fun y st => augW o x y st fun z st => R.nx (sv ρ i (some z)) st
  | .augix o i op e, ρ, st, X, R => wE Γ o ρ st X fun o st => wE Γ i ρ st X fun i st => ixW o i st fun x st => wE Γ e ρ st X fun y st => augW op x y st fun z st => setW o i z st fun st => R.nx ρ st
  | .ex e, ρ, st, X, R => wE Γ e ρ st X fun _ st => R.nx ρ st
  | .ret e, ρ, st, X, R => wE Γ e ρ st X R.rt
  | .ret0, _, st, _, R => R.rt .non st
  | .ife c a b, ρ, st, X, R => wE Γ c ρ st X fun x st => match x with
    | .bl k => if k = true then wSs Γ a ρ st X R else wSs Γ b ρ st X R
    | _ => False
  | .for_ tg it b, ρ, st, X, R => wIt Γ it ρ st X fun items g st => forW g tg (fun ρ st R => wSs Γ b ρ st X R) items ρ st R
  | .while_ c b, ρ, st, X, R => whileW (fun ρ st K => wE Γ c ρ st X fun x st => match x with
      | .bl k => K k st
      | _ => False) (fun ρ st R => wSs Γ b ρ st X R) ρ st R
  | .brk, ρ, st, _, R => R.bk ρ st
  | .pass, ρ, st, _, R => R.nx ρ st
  | .raise_ cls e, ρ, st, X, _ => wE Γ e ρ st X fun x st => X (.tup [.str cls, x]) st
def wSs (Γ : Ctx) : Ss → Ev → Store → XK → En → Prop
  | .nil, ρ, st, _, R => R.nx ρ st
  | .cons s ss, ρ, st, X, R => wS Γ s ρ st X { R with nx := fun ρ st => wSs Γ ss ρ st X R }
end

/-- a def: how many names, parameters, its body -/
structure Df where
  np : Nat
  nn : Nat
  body : Ss
structure Pg where
  defs : List (Str × Df)
  glb : Str → Option D
  kw : Str → Nat → List Str → List Nat
def env0 : Nat → List D → Ev
  | 0, _ => []
  | n + 1, [] => none :: env0 n []
  | n + 1, x :: xs => some x :: env0 n xs
/-- a call, so many defs deep -/
def callN (G : Pg) : Nat → Str → List D → Store → XK → QD → Prop
  | 0, _, _, _, _, _ => False
  | n + 1, f, xs, st, X, Q => match G.defs.lookup f with
    | some d => xs.length = d.np ∧ wSs ⟨callN G n, G.glb, G.kw⟩ d.body (env0 d.nn xs) st X ⟨fun _ st => Q .non st, Q, fun _ _ => False⟩
    | none => False
abbrev ctxN (G : Pg) (n : Nat) : Ctx := ⟨callN G n, G.glb, G.kw⟩
end Mi
/-! ## M1: how data and stores stand in the kit's abstract heap -/
namespace Mi
open PySem PySem.Spec PyProof.Rows L2

/-- the module's objects by name, the world -/
structure GV where
  at_ : Str → Option Addr
  w : World
/-- a dict of the module with text keys -/
structure TabK (K : PySem.W.Frag) (w : World) (a : Addr) (ks : List Str) (us : List Value) : Prop where
  kd : ∃ es n, KDict K w a es n
  len : ks.length = us.length
  get : ∀ z : Str, PySem.W.nsIn K a z = some ((ks.zip us).lookup z)
/-- a list that is read alone -/
def RoL (F : Addr → Prop) (K : PySem.W.Frag) (H : Hp) (a : Addr) (vs : List V) : Prop :=
  (∃ (o : Obj) (its : Array Value) (n : Nat), K.lookup a = some o ∧ o.cls = .type "list" ∧ o.dict = none ∧ o.data = .seq its n ∧ its.size ≤ sizeLine ∧ Vals vs its.toList) ∨ (∃ o, H a = some (.frz o (.lst vs))) ∧ ¬ F a
theorem RoL.seq {F : Addr → Prop} {K : PySem.W.Frag} {H : Hp} {a : Addr} {vs : List V} (h : RoL F K H a vs) : SqL K H a vs := by
  rcases h with h | ⟨⟨o, h⟩, _⟩
  · exact .inr h
  · exact .inl (.inr ⟨o, h⟩)
/-- a tuple -/
def TuF (F : Addr → Prop) (K : PySem.W.Frag) (H : Hp) (a : Addr) (vs : List V) : Prop :=
  (∃ (o : Obj) (its : Array Value) (n : Nat), K.lookup a = some o ∧ o.cls = .type "tuple" ∧ o.data = .seq its n ∧ its.size ≤ sizeLine ∧ Vals vs its.toList) ∨ Rd H a (.tup vs) ∧ ¬ F a
theorem TuF.seq {F : Addr → Prop} {K : PySem.W.Frag} {H : Hp} {a : Addr} {vs : List V} (h : TuF F K H a vs) : SqT K H a vs := by
  rcases h with h | ⟨h, _⟩
  · exact .inr h
  · exact .inl h
mutual
inductive RD (F : Addr → Prop) (K : PySem.W.Frag) (gv : GV) (H : Hp) (st : Store) : D → V → Prop
  | non : RD F K gv H st .non .non
  | bl (b : Bool) : RD F K gv H st (.bl b) (.bl b)
  | int (i : Int) : RD F K gv H st (.int i) (.int i)
  | str (x : Str) : RD F K gv H st (.str x) (.str x)
  | tup {a : Addr} {xs : List D} {vs : List V} : TuF F K H a vs → RDs F K gv H st xs vs → RD F K gv H st (.tup xs) (.ref a)
  | lst {a : Addr} {xs : List D} {vs : List V} : H a = some (.lst vs) → st a = none → ¬ F a → RDs F K gv H st xs vs → RD F K gv H st (.lst xs) (.ref a)
  | ro {a : Addr} {xs : List D} {vs : List V} : RoL F K H a vs → RDs F K gv H st xs vs → RD F K gv H st (.ro xs) (.ref a)
  | dct0 {a : Addr} : H a = some (.dK []) → st a = none → ¬ F a → RD F K gv H st (.dct [] []) (.ref a)
  | loc {a : Addr} : st a ≠ none → RD F K gv H st (.loc a) (.ref a)
  | tab {a : Addr} {ks : List Str} {us : List Value} {ds : List D} {vs : List V} : TabK K gv.w a ks us → Vals vs us → RDs F K gv H st ds vs → RD F K gv H st (.tab ks ds) (.ref a)
  | glo {x : Str} {a : Addr} : gv.at_ x = some a → RD F K gv H st (.glo x) (.ref a)
inductive RDs (F : Addr → Prop) (K : PySem.W.Frag) (gv : GV) (H : Hp) (st : Store) : List D → List V → Prop
  | nil : RDs F K gv H st [] []
  | cons {x : D} {v : V} {xs : List D} {vs : List V} : RD F K gv H st x v → RDs F K gv H st xs vs → RDs F K gv H st (x :: xs) (v :: vs)
end
/-- what stands at a cell's address -/
inductive RC (F : Addr → Prop) (K : PySem.W.Frag) (gv : GV) (H : Hp) (st : Store) : Cell → Option HO → Prop
  | lst {xs : List D} {vs : List V} : RDs F K gv H st xs vs → RC F K gv H st (.lst xs) (some (.lst vs))
  | dic0 : RC F K gv H st (.dic [] []) (some (.dK []))
structure RS (F : Addr → Prop) (K : PySem.W.Frag) (gv : GV) (H : Hp) (st : Store) : Prop where
  at_ : ∀ a c, st a = some c → RC F K gv H st c (H a) ∧ ¬ F a
  hid : ∀ a, F a → H a ≠ none ∧ st a = none
/-- a step: what is no cell stays, cells stay cells -/
structure Ext (st : Store) (H : Hp) (st' : Store) (H' : Hp) : Prop where
  keep : ∀ a o, H a = some o → st a = none → H' a = some o ∧ st' a = none
  cell : ∀ a, st a ≠ none → st' a ≠ none
/-- the same, the hidden ones left out -/
structure ExtF (F : Addr → Prop) (st : Store) (H : Hp) (st' : Store) (H' : Hp) : Prop where
  keep : ∀ a o, ¬ F a → H a = some o → st a = none → H' a = some o ∧ st' a = none
  cell : ∀ a, st a ≠ none → st' a ≠ none
section
variable {F : Addr → Prop} {K : PySem.W.Frag} {gv : GV} {H H' H2 : Hp} {st st' st2 : Store}
theorem Ext.f (x : Ext st H st' H') : ExtF F st H st' H' := ⟨fun a o _ => x.keep a o, x.cell⟩
theorem ExtF.refl : ExtF F st H st H := ⟨fun _ _ _ h n => ⟨h, n⟩, fun _ h => h⟩
theorem ExtF.trans (a : ExtF F st H st' H') (b : ExtF F st' H' st2 H2) : ExtF F st H st2 H2 :=
  ⟨fun c o f h n => let ⟨h1, n1⟩ := a.keep c o f h n; b.keep c o f h1 n1, fun c h => b.cell c (a.cell c h)⟩
theorem Ext.refl : Ext st H st H := ⟨fun _ _ h n => ⟨h, n⟩, fun _ h => h⟩
theorem Ext.trans (a : Ext st H st' H') (b : Ext st' H' st2 H2) : Ext st H st2 H2 :=
  ⟨fun c o h n => let ⟨h1, n1⟩ := a.keep c o h n; b.keep c o h1 n1, fun c h => b.cell c (a.cell c h)⟩
theorem RS.notup (r : RS F K gv H st) {a : Addr} {vs : List V} (h : H a = some (.tup vs)) : st a = none := by
  cases e : st a with
  | none => rfl
  | some c =>
    have := (r.at_ a c e).1
    rw [h] at this
    cases this
theorem RS.nofrz (r : RS F K gv H st) {a : Addr} {o : Obj} {u : HO} (h : H a = some (.frz o u)) : st a = none := by
  cases e : st a with
  | none => rfl
  | some c =>
    have := (r.at_ a c e).1
    rw [h] at this
    cases this
theorem RS.free (r : RS F K gv H st) {a : Addr} (h : H a = none) : st a = none := by
  cases e : st a with
  | none => rfl
  | some c =>
    have := (r.at_ a c e).1
    rw [h] at this
    cases this
theorem TuF.mono {F0 : Addr → Prop} (r : RS F0 K gv H st) (x : ExtF F st H st' H') {a : Addr} {vs : List V} (h : TuF F K H a vs) : TuF F K H' a vs := by
  rcases h with h | ⟨h | ⟨o, h⟩, f⟩
  · exact .inl h
  · exact .inr ⟨.inl (x.keep a _ f h (r.notup h)).1, f⟩
  · exact .inr ⟨.inr ⟨o, (x.keep a _ f h (r.nofrz h)).1⟩, f⟩
theorem RoL.mono {F0 : Addr → Prop} (r : RS F0 K gv H st) (x : ExtF F st H st' H') {a : Addr} {vs : List V} (h : RoL F K H a vs) : RoL F K H' a vs := by
  rcases h with h | ⟨⟨o, h⟩, f⟩
  · exact .inl h
  · exact .inr ⟨⟨o, (x.keep a _ f h (r.nofrz h)).1⟩, f⟩
mutual
theorem RD.mono {F0 : Addr → Prop} (r : RS F0 K gv H st) (x : ExtF F st H st' H') : ∀ {d : D} {v : V}, RD F K gv H st d v → RD F K gv H' st' d v
  | _, _, .non => .non
  | _, _, .bl b => .bl b
  | _, _, .int i => .int i
  | _, _, .str z => .str z
  | _, _, .tup h hs => .tup (TuF.mono r x h) (RDs.mono r x hs)
  | _, _, .lst h n f hs => .lst (x.keep _ _ f h n).1 (x.keep _ _ f h n).2 f (RDs.mono r x hs)
  | _, _, .ro h hs => .ro (h.mono r x) (RDs.mono r x hs)
  | _, _, .dct0 h n f => .dct0 (x.keep _ _ f h n).1 (x.keep _ _ f h n).2 f
  | _, _, .loc h => .loc (x.cell _ h)
  | _, _, .tab h q hs => .tab h q (RDs.mono r x hs)
  | _, _, .glo h => .glo h
theorem RDs.mono {F0 : Addr → Prop} (r : RS F0 K gv H st) (x : ExtF F st H st' H') : ∀ {ds : List D} {vs : List V}, RDs F K gv H st ds vs → RDs F K gv H' st' ds vs
  | _, _, .nil => .nil
  | _, _, .cons h hs => .cons (RD.mono r x h) (RDs.mono r x hs)
end
theorem RDs.length : ∀ {ds : List D} {vs : List V}, RDs F K gv H st ds vs → ds.length = vs.length
  | _, _, .nil => rfl
  | _, _, .cons _ h => congrArg Nat.succ h.length
theorem RDs.append : ∀ {ds es : List D} {vs us : List V}, RDs F K gv H st ds vs → RDs F K gv H st es us → RDs F K gv H st (ds ++ es) (vs ++ us)
  | _, _, _, _, .nil, h => h
  | _, _, _, _, .cons a b, h => .cons a (b.append h)
theorem RDs.get : ∀ {ds : List D} {vs : List V} {i : Nat} {d : D}, RDs F K gv H st ds vs → ds[i]? = some d → ∃ v, vs[i]? = some v ∧ RD F K gv H st d v
  | _, _, _, _, .nil, e => by simp at e
  | _, _, 0, _, .cons a _, e => by
    simp at e
    subst e
    exact ⟨_, rfl, a⟩
  | _, _, i + 1, d, .cons _ b, e => by
    obtain ⟨u, h1, h2⟩ := b.get (i := i) (d := d) (by simpa using e)
    exact ⟨u, by simpa using h1, h2⟩
theorem RDs.pick {ds : List D} {vs : List V} (h : RDs F K gv H st ds vs) : ∀ is : List Nat, RDs F K gv H st (pickL is ds) (pickL is vs)
  | [] => .nil
  | i :: is => by
    have ih := h.pick is
    unfold pickL at ih ⊢
    rw [List.filterMap_cons, List.filterMap_cons]
    cases q : ds[i]? with
    | none =>
      have e : vs[i]? = none := List.getElem?_eq_none (by rw [← h.length]; exact List.getElem?_eq_none_iff.mp q)
      rw [e]
      exact ih
    | some d =>
      obtain ⟨v, e, rd⟩ := h.get q
      rw [e]
      exact .cons rd ih
theorem RDs.take : ∀ {ds : List D} {vs : List V} (n : Nat), RDs F K gv H st ds vs → RDs F K gv H st (ds.take n) (vs.take n)
  | _, _, 0, _ => by simpa using RDs.nil
  | _, _, n + 1, .nil => .nil
  | _, _, n + 1, .cons a b => .cons a (b.take n)
theorem RDs.drop : ∀ {ds : List D} {vs : List V} (n : Nat), RDs F K gv H st ds vs → RDs F K gv H st (ds.drop n) (vs.drop n)
  | _, _, 0, h => by simpa using h
  | _, _, n + 1, .nil => .nil
  | _, _, n + 1, .cons a b => b.drop n
theorem RDs.reverse : ∀ {ds : List D} {vs : List V}, RDs F K gv H st ds vs → RDs F K gv H st ds.reverse vs.reverse
  | _, _, .nil => .nil
  | _, _, .cons a b => by simpa using RDs.append b.reverse (.cons a .nil)
theorem RDs.set {x : D} {u : V} (r : RD F K gv H st x u) : ∀ {ds : List D} {vs : List V} (i : Nat), RDs F K gv H st ds vs → RDs F K gv H st (ds.set i x) (vs.set i u)
  | _, _, _, .nil => .nil
  | _, _, 0, .cons _ b => .cons r b
  | _, _, i + 1, .cons a b => .cons a (b.set r i)
theorem RDs.erase : ∀ {ds : List D} {vs : List V} (i : Nat), RDs F K gv H st ds vs → RDs F K gv H st (ds.eraseIdx i) (vs.eraseIdx i)
  | _, _, _, .nil => .nil
  | _, _, 0, .cons _ b => b
  | _, _, i + 1, .cons a b => .cons a (b.erase i)
theorem RDs.dropLast {ds : List D} {vs : List V} (h : RDs F K gv H st ds vs) : RDs F K gv H st ds.dropLast vs.dropLast := by
  rw [List.dropLast_eq_take, List.dropLast_eq_take, h.length]
  exact h.take _
theorem RDs.rep {ds : List D} {vs : List V} (h : RDs F K gv H st ds vs) : ∀ k : Nat, RDs F K gv H st (repL k ds) (List.replicate k vs).flatten
  | 0 => .nil
  | k + 1 => by
    have e : (List.replicate (k + 1) vs).flatten = vs ++ (List.replicate k vs).flatten := by simp [List.replicate_succ]
    rw [e]
    exact h.append (h.rep k)
/-- what is read -/
inductive Vw (F : Addr → Prop) (K : PySem.W.Frag) (gv : GV) (H : Hp) (st : Store) : D → V → Prop
  | non : Vw F K gv H st .non .non
  | bl (b : Bool) : Vw F K gv H st (.bl b) (.bl b)
  | int (i : Int) : Vw F K gv H st (.int i) (.int i)
  | str (x : Str) : Vw F K gv H st (.str x) (.str x)
  | tup {a : Addr} {xs : List D} {vs : List V} : TuF F K H a vs → RDs F K gv H st xs vs → Vw F K gv H st (.tup xs) (.ref a)
  | lst {a : Addr} {xs : List D} {vs : List V} : H a = some (.lst vs) → RDs F K gv H st xs vs → Vw F K gv H st (.lst xs) (.ref a)
  | ro {a : Addr} {xs : List D} {vs : List V} : RoL F K H a vs → RDs F K gv H st xs vs → Vw F K gv H st (.ro xs) (.ref a)
  | dct0 {a : Addr} : H a = some (.dK []) → Vw F K gv H st (.dct [] []) (.ref a)
  | tab {a : Addr} {ks : List Str} {us : List Value} {ds : List D} {vs : List V} : TabK K gv.w a ks us → Vals vs us → RDs F K gv H st ds vs → Vw F K gv H st (.tab ks ds) (.ref a)
  | glo {x : Str} {a : Addr} : gv.at_ x = some a → Vw F K gv H st (.glo x) (.ref a)
theorem RD.view (r : RS F K gv H st) {d : D} {v : V} (h : RD F K gv H st d v) : Vw F K gv H st (der st d) v := by
  cases h with
  | non => exact .non
  | bl b => exact .bl b
  | int i => exact .int i
  | str x => exact .str x
  | tup h hs => exact .tup h hs
  | lst h n _ hs => exact .lst h hs
  | ro h hs => exact .ro h hs
  | dct0 h n _ => exact .dct0 h
  | glo h => exact .glo h
  | tab h r hs => exact .tab h r hs
  | @loc a h =>
    cases e : st a with
    | none => exact absurd e h
    | some c =>
      have q := (r.at_ a c e).1
      generalize hh : H a = o at q
      cases q with
      | @lst xs vs hs =>
        have ed : der st (.loc a) = .lst xs := by simp only [der, e]
        rw [ed]
        exact .lst hh hs
      | dic0 =>
        have ed : der st (.loc a) = .dct [] [] := by simp only [der, e]
        rw [ed]
        exact .dct0 hh
/-- more is hidden, all of it new -/
theorem TuF.hide {F' : Addr → Prop} (hF : ∀ a, F' a → F a ∨ H a = none) {a : Addr} {vs : List V} (h : TuF F K H a vs) : TuF F' K H a vs := by
  rcases h with h | ⟨h, f⟩
  · exact .inl h
  · refine .inr ⟨h, fun f' => ?_⟩
    rcases hF a f' with q | q
    · exact f q
    · rcases h with h | ⟨o, h⟩
      · rw [q] at h; cases h
      · rw [q] at h; cases h
theorem RoL.hide {F' : Addr → Prop} (hF : ∀ a, F' a → F a ∨ H a = none) {a : Addr} {vs : List V} (h : RoL F K H a vs) : RoL F' K H a vs := by
  rcases h with h | ⟨⟨o, h⟩, f⟩
  · exact .inl h
  · refine .inr ⟨⟨o, h⟩, fun f' => ?_⟩
    rcases hF a f' with q | q
    · exact f q
    · rw [q] at h; cases h
theorem nf_hide {F' : Addr → Prop} (hF : ∀ a, F' a → F a ∨ H a = none) {a : Addr} {o : HO} (h : H a = some o) (f : ¬ F a) : ¬ F' a := fun f' => by
  rcases hF a f' with q | q
  · exact f q
  · rw [q] at h; cases h
mutual
theorem RD.hide {F' : Addr → Prop} (hF : ∀ a, F' a → F a ∨ H a = none) : ∀ {d : D} {v : V}, RD F K gv H st d v → RD F' K gv H st d v
  | _, _, .non => .non
  | _, _, .bl b => .bl b
  | _, _, .int i => .int i
  | _, _, .str z => .str z
  | _, _, .tup h hs => .tup (h.hide hF) (RDs.hide hF hs)
  | _, _, .lst h n f hs => .lst h n (nf_hide hF h f) (RDs.hide hF hs)
  | _, _, .ro h hs => .ro (h.hide hF) (RDs.hide hF hs)
  | _, _, .dct0 h n f => .dct0 h n (nf_hide hF h f)
  | _, _, .loc h => .loc h
  | _, _, .tab h r hs => .tab h r (RDs.hide hF hs)
  | _, _, .glo h => .glo h
theorem RDs.hide {F' : Addr → Prop} (hF : ∀ a, F' a → F a ∨ H a = none) : ∀ {ds : List D} {vs : List V}, RDs F K gv H st ds vs → RDs F' K gv H st ds vs
  | _, _, .nil => .nil
  | _, _, .cons h hs => .cons (RD.hide hF h) (RDs.hide hF hs)
end
/-- a new object that is no cell -/
theorem Ext.laid {p : Addr} {o : HO} (r : RS F K gv H st) (hp : H p = none) : Ext st H st (upd H p o) :=
  ⟨fun a u h n => ⟨by rw [upd_ne (ne_of_none h hp)]; exact h, n⟩, fun _ h => h⟩
theorem RC.mono {F0 : Addr → Prop} (r : RS F0 K gv H st) (x : ExtF F st H st' H') {c : Cell} {o : Option HO} (h : RC F K gv H st c o) : RC F K gv H' st' c o := by
  cases h with
  | lst hs => exact .lst (hs.mono r x)
  | dic0 => exact .dic0
theorem RS.nf (r : RS F K gv H st) {p : Addr} (hp : H p = none) : ¬ F p := fun f => (r.hid p f).1 hp
theorem RS.laid {p : Addr} {o : HO} (r : RS F K gv H st) (hp : H p = none) : RS F K gv (upd H p o) st where
  at_ := fun a c e => by
    have ne : a ≠ p := fun z => by
      subst z
      rw [r.free hp] at e
      cases e
    rw [upd_ne ne]
    exact ⟨(r.at_ a c e).1.mono r (Ext.laid r hp).f, (r.at_ a c e).2⟩
  hid := fun a f => by
    have ne : a ≠ p := fun z => r.nf hp (z ▸ f)
    rw [upd_ne ne]
    exact r.hid a f
/-- a new cell -/
theorem Ext.made {p : Addr} {o : HO} {c : Cell} (r : RS F K gv H st) (hp : H p = none) : Ext st H (st.up p c) (upd H p o) :=
  ⟨fun a u h n => by
    have ne := ne_of_none h hp
    refine ⟨by rw [upd_ne ne]; exact h, ?_⟩
    unfold Store.up
    rw [if_neg ne]
    exact n, fun a h => by
    unfold Store.up
    split
    · exact fun z => nomatch z
    · exact h⟩
/-- a cell changed -/
theorem Ext.write {p : Addr} {o : HO} {c : Cell} (hc : st p ≠ none) : Ext st H (st.up p c) (upd H p o) :=
  ⟨fun a u h n => by
    have ne : a ≠ p := fun z => hc (z ▸ n)
    refine ⟨by rw [upd_ne ne]; exact h, ?_⟩
    unfold Store.up
    rw [if_neg ne]
    exact n, fun a h => by
    unfold Store.up
    split
    · exact fun z => nomatch z
    · exact h⟩
theorem RS.up {p : Addr} {o : HO} {c : Cell} (r : RS F K gv H st) (x : Ext st H (st.up p c) (upd H p o)) (hf : ¬ F p) (h : RC F K gv (upd H p o) (st.up p c) c (some o)) : RS F K gv (upd H p o) (st.up p c) where
  at_ := fun a d e => by
    unfold Store.up at e
    by_cases ha : a = p
    · subst ha
      rw [if_pos rfl] at e
      cases e
      rw [upd_same]
      exact ⟨h, hf⟩
    · rw [if_neg ha] at e
      rw [upd_ne ha]
      exact ⟨(r.at_ a d e).1.mono r x.f, (r.at_ a d e).2⟩
  hid := fun a f => by
    have ne : a ≠ p := fun z => hf (z ▸ f)
    rw [upd_ne ne]
    refine ⟨(r.hid a f).1, ?_⟩
    unfold Store.up
    rw [if_neg ne]
    exact (r.hid a f).2
theorem up_same {p : Nat} {c : Cell} : (st.up p c) p = some c := by
  unfold Store.up
  rw [if_pos rfl]
theorem up_ne {p q : Nat} {c : Cell} (h : q ≠ p) : (st.up p c) q = st q := by
  unfold Store.up
  rw [if_neg h]
/-- an environment in the frame's slots -/
def RE (F : Addr → Prop) (K : PySem.W.Frag) (gv : GV) (H : Hp) (st : Store) : Ev → L2.St → Prop
  | [], [] => True
  | none :: ρ, _ :: σ => RE F K gv H st ρ σ
  | some d :: ρ, some v :: σ => RD F K gv H st d v ∧ RE F K gv H st ρ σ
  | _, _ => False
theorem RE.mono {F0 : Addr → Prop} (r : RS F0 K gv H st) (x : ExtF F st H st' H') : ∀ {ρ : Ev} {σ : L2.St}, RE F K gv H st ρ σ → RE F K gv H' st' ρ σ
  | [], [], _ => trivial
  | none :: ρ, _ :: σ, h => RE.mono (ρ := ρ) (σ := σ) r x h
  | some _ :: _, some _ :: _, h => ⟨h.1.mono r x, RE.mono r x h.2⟩
  | some _ :: _, none :: _, h => h.elim
  | [], _ :: _, h => h.elim
  | none :: _, [], h => h.elim
  | some _ :: _, [], h => h.elim
theorem RE.get : ∀ {ρ : Ev} {σ : L2.St} {i : Nat} {d : D}, RE F K gv H st ρ σ → lk ρ i = some d → ∃ v, σ[i]? = some (some v) ∧ RD F K gv H st d v
  | [], _, _, _, _, e => by cases e
  | none :: _, [], _, _, h, _ => h.elim
  | some _ :: _, [], _, _, h, _ => h.elim
  | some _ :: _, none :: _, _, _, h, _ => h.elim
  | none :: _, _ :: _, 0, _, _, e => by cases e
  | some _ :: _, some _ :: _, 0, _, h, e => by
    cases e
    exact ⟨_, rfl, h.1⟩
  | none :: ρ, _ :: σ, i + 1, d, h, e => by
    obtain ⟨v, h1, h2⟩ := RE.get (ρ := ρ) (σ := σ) (i := i) (d := d) h e
    exact ⟨v, by simpa using h1, h2⟩
  | some _ :: ρ, some _ :: σ, i + 1, d, h, e => by
    obtain ⟨v, h1, h2⟩ := RE.get (ρ := ρ) (σ := σ) (i := i) (d := d) h.2 e
    exact ⟨v, by simpa using h1, h2⟩
theorem RE.sv {d : D} {v : V} (r : RD F K gv H st d v) : ∀ {ρ : Ev} {σ : L2.St} {i : Nat}, RE F K gv H st ρ σ → RE F K gv H st (sv ρ i (some d)) (σ.set i (some v))
  | [], [], _, _ => trivial
  | [], _ :: _, _, h => h.elim
  | none :: _, [], _, h => h.elim
  | some _ :: _, [], _, h => h.elim
  | some _ :: _, none :: _, _, h => h.elim
  | none :: _, _ :: _, 0, h => ⟨r, h⟩
  | some _ :: _, some _ :: _, 0, h => ⟨r, h.2⟩
  | none :: ρ, _ :: σ, i + 1, h => RE.sv (ρ := ρ) (σ := σ) (i := i) r h
  | some _ :: ρ, some _ :: σ, i + 1, h => ⟨h.1, RE.sv (ρ := ρ) (σ := σ) (i := i) r h.2⟩
theorem RE.hide {F' : Addr → Prop} (hF : ∀ a, F' a → F a ∨ H a = Option.none) : ∀ {ρ : Ev} {σ : L2.St}, RE F K gv H st ρ σ → RE F' K gv H st ρ σ
  | [], [], _ => trivial
  | .none :: ρ, _ :: σ, h => RE.hide (ρ := ρ) (σ := σ) hF h
  | some _ :: _, some _ :: _, h => ⟨h.1.hide hF, RE.hide hF h.2⟩
  | some _ :: _, .none :: _, h => h.elim
  | [], _ :: _, h => h.elim
  | .none :: _, [], h => h.elim
  | some _ :: _, [], h => h.elim
theorem RE.none : ∀ {ρ : Ev} {σ : L2.St} {i : Nat}, RE F K gv H st ρ σ → RE F K gv H st (Mi.sv ρ i Option.none) (σ.set i Option.none)
  | [], [], _, _ => trivial
  | [], _ :: _, _, h => h.elim
  | .none :: _, [], _, h => h.elim
  | some _ :: _, [], _, h => h.elim
  | some _ :: _, .none :: _, _, h => h.elim
  | .none :: _, _ :: _, 0, h => h
  | some _ :: _, some _ :: _, 0, h => h.2
  | .none :: ρ, _ :: σ, i + 1, h => RE.none (ρ := ρ) (σ := σ) (i := i) h
  | some _ :: ρ, some _ :: σ, i + 1, h => ⟨h.1, RE.none (ρ := ρ) (σ := σ) (i := i) h.2⟩
theorem RE.wipe {ρ : Ev} {σ : L2.St} (h : RE F K gv H st ρ σ) : ∀ own : List Nat, RE F K gv H st (wipeD ρ own) (wipe σ own)
  | [] => h
  | _ :: is => (RE.wipe h is).none
theorem RE.start0 {F : Addr → Prop} {K : PySem.W.Frag} {gv : GV} {H : Hp} {st : Store} : ∀ {xs : List D} {vs : List V} (n : Nat), RDs F K gv H st xs vs → xs.length ≤ n → RE F K gv H st (env0 n xs) (vs.map some ++ List.replicate (n - vs.length) Option.none)
  | _, _, 0, .nil, _ => trivial
  | _, _, n + 1, .nil, _ => by
    have q := RE.start0 (F := F) (K := K) (gv := gv) (H := H) (st := st) n RDs.nil (Nat.zero_le _)
    simp only [List.map_nil, List.nil_append, List.length_nil, Nat.sub_zero] at q ⊢
    rw [List.replicate_succ]
    exact q
  | _, _, 0, .cons _ _, h => absurd h (by simp)
  | _, _, n + 1, .cons a b, h => by
    have q := RE.start0 n b (by simpa using h)
    simp only [List.map_cons, List.cons_append, List.length_cons, Nat.add_sub_add_right]
    exact ⟨a, q⟩
end
end Mi
/-! ## M2: the operations, by values: the kit's rules give what M0 tells -/
namespace Mi
open PySem PySem.Spec PyProof.Rows L2

theorem big_line {n : Nat} (h : n ≤ big) : n ≤ sizeLine := by
  rw [sizeLine_eq]
  unfold big at h
  omega
section
variable {F : Addr → Prop} {X : Cx} {gv : GV}
/-- from a pure end to one of the kit's -/
def Pst (F : Addr → Prop) (X : Cx) (gv : GV) (st : Store) (H : Hp) (Q' : QD) (Q : VK) : Prop :=
  ∀ d st' v H', Q' d st' → Ext st H st' H' → RS F X.K gv H' st' → RD F X.K gv H' st' d v → Q v H'
def Pst0 (F : Addr → Prop) (X : Cx) (gv : GV) (st : Store) (H : Hp) (Q' : Store → Prop) (Q : Hp → Prop) : Prop :=
  ∀ st' H', Q' st' → Ext st H st' H' → RS F X.K gv H' st' → Q H'
section
variable {st : Store} {H : Hp} {Q' : QD} {Q : VK}
theorem Pst.here (p : Pst F X gv st H Q' Q) (r : RS F X.K gv H st) {d : D} {v : V} (q : Q' d st) (h : RD F X.K gv H st d v) : Q v H := p d st v H q Ext.refl r h
theorem Pst.tup (p : Pst F X gv st H Q' Q) (r : RS F X.K gv H st) {xs : List D} {vs : List V} (q : Q' (.tup xs) st) (h : RDs F X.K gv H st xs vs) : ∀ a, H a = none → Q (.ref a) (upd H a (.tup vs)) := fun a ha =>
  p _ _ _ _ q (Ext.laid r ha) (r.laid ha) (.tup (.inr ⟨.inl upd_same, r.nf ha⟩) (h.mono r (Ext.laid r ha).f))
theorem Pst.lst (p : Pst F X gv st H Q' Q) (r : RS F X.K gv H st) {xs : List D} {vs : List V} (q : Q' (.lst xs) st) (h : RDs F X.K gv H st xs vs) : ∀ a, H a = none → Q (.ref a) (upd H a (.lst vs)) := fun a ha =>
  p _ _ _ _ q (Ext.laid r ha) (r.laid ha) (.lst upd_same (r.free ha) (r.nf ha) (h.mono r (Ext.laid r ha).f))
theorem Pst.new (p : Pst F X gv st H Q' Q) (r : RS F X.K gv H st) {xs : List D} {vs : List V} (q : newL xs st Q') (h : RDs F X.K gv H st xs vs) : ∀ a, H a = none → Q (.ref a) (upd H a (.lst vs)) := fun a ha => by
  have x : Ext st H (st.up a (.lst xs)) (upd H a (.lst vs)) := Ext.made r ha
  exact p _ _ _ _ (q a (r.free ha)) x (r.up x (r.nf ha) (.lst (h.mono r x.f))) (.loc (by rw [up_same]; exact fun z => nomatch z))
theorem Pst.newD (p : Pst F X gv st H Q' Q) (r : RS F X.K gv H st) (q : newD [] [] st Q') : ∀ a, H a = none → Q (.ref a) (upd H a (.dK [])) := fun a ha => by
  have x : Ext st H (st.up a (.dic [] [])) (upd H a (.dK [])) := Ext.made r ha
  exact p _ _ _ _ (q a (r.free ha)) x (r.up x (r.nf ha) .dic0) (.loc (by rw [up_same]; exact fun z => nomatch z))
/-- a cell that is a list, rewritten -/
theorem RS.write {a : Addr} {ys : List D} {vs : List V} {c : Cell} (r : RS F X.K gv H st) (hc : st a = some c) (h : RDs F X.K gv H st ys vs) :
    Ext st H (st.up a (.lst ys)) (upd H a (.lst vs)) ∧ RS F X.K gv (upd H a (.lst vs)) (st.up a (.lst ys)) := by
  have x : Ext st H (st.up a (.lst ys)) (upd H a (.lst vs)) := Ext.write (by rw [hc]; exact fun z => nomatch z)
  exact ⟨x, r.up x (r.at_ a c hc).2 (.lst (h.mono r x.f))⟩
theorem RS.cell {a : Addr} {ys : List D} (r : RS F X.K gv H st) (hc : st a = some (.lst ys)) : ∃ vs, H a = some (.lst vs) ∧ RDs F X.K gv H st ys vs := by
  have q := (r.at_ a _ hc).1
  generalize hh : H a = o at q
  cases q with
  | lst h => exact ⟨_, rfl, h⟩
end

/-! ### two-place operations -/
def opB : Op2 → Operator
  | .add | .addL => .Add
  | .sub => .Sub
  | .mul | .mulL => .Mult
  | .fdiv => .FloorDiv
  | .mod => .Mod
  | .pow => .Pow
def rBin (F : Addr → Prop) (X : Cx) (gv : GV) (o : Op2) : R2 := fun x y H Q => ∃ st dx dy Q', RS F X.K gv H st ∧ RD F X.K gv H st dx x ∧ RD F X.K gv H st dy y ∧ binW o dx dy st Q' ∧ Pst F X gv st H Q' Q
theorem op_powW : OpR X (binaryOp .Pow) (rI powOk fun i j => .int (i ^ j.toNat)) := opI fun _ _ _ _ _ _ _ hc q => pow_int hc.1 hc.2 q
theorem opr_bin (o : Op2) : OpR X (binaryOp (opB o)) (rBin F X gv o) := by
  intro pins s σ H x y v u Q I rx ry h
  obtain ⟨st, dx, dy, Q', r, hx, hy, w, p⟩ := h
  have vx := hx.view r
  have vy := hy.view r
  unfold binW at w
  generalize der st dx = ex at w vx
  generalize der st dy = ey at w vy
  cases o with
  | add =>
    cases vx <;> cases vy <;> first | exact w.elim | skip
    · exact op_add pins s σ H _ _ v u Q I rx ry ⟨_, _, rfl, rfl, p.here r w (.int _)⟩
    · exact op_add_str pins s σ H _ _ v u Q I rx ry ⟨_, _, rfl, rfl, big_line w.1, p.here r w.2 (.str _)⟩
    · rename_i a xs vs ht hs b ys us ht2 hs2
      refine op_catA pins s σ H _ _ v u Q I rx ry ⟨_, _, _, _, rfl, rfl, ht.seq, ht2.seq, by rw [← hs.length, ← hs2.length]; exact big_line w.1, fun z => ?_, fun z1 z2 => ?_, fun _ _ => p.tup r w.2 (hs.append hs2)⟩
      · subst z
        cases hs
        exact p.here r w.2 (.tup ht2 hs2)
      · subst z2
        cases hs2
        have w2 := w.2
        rw [List.append_nil] at w2
        exact p.here r w2 (.tup ht hs)
    · rename_i a xs vs ht hs b ys us ht2 hs2
      exact op_cat pins s σ H _ _ v u Q I rx ry ⟨_, _, _, _, rfl, rfl, ht, ht2, by rw [← hs.length, ← hs2.length]; exact big_line w.1, p.lst r w.2 (hs.append hs2)⟩
  | addL =>
    cases vx <;> cases vy <;> first | exact w.elim | skip
    rename_i a xs vs ht hs b ys us ht2 hs2
    exact op_cat pins s σ H _ _ v u Q I rx ry ⟨_, _, _, _, rfl, rfl, ht, ht2, by rw [← hs.length, ← hs2.length]; exact big_line w.1, p.new r w.2 (hs.append hs2)⟩
  | sub =>
    cases vx <;> cases vy <;> first | exact w.elim | skip
    exact op_sub pins s σ H _ _ v u Q I rx ry ⟨_, _, rfl, rfl, p.here r w (.int _)⟩
  | mul =>
    cases vx <;> cases vy <;> first | exact w.elim | skip
    · exact op_mulW pins s σ H _ _ v u Q I rx ry ⟨_, _, rfl, rfl, w.1, p.here r w.2 (.int _)⟩
    · rename_i a xs vs ht hs j
      obtain ⟨⟨w1, w2, w3, w4⟩, w5⟩ := w
      refine op_repT pins s σ H _ _ v u Q I rx ry ⟨_, _, _, rfl, rfl, ht.seq, fun z => ?_, w2, w3, by rw [← hs.length]; exact w4, p.tup r w5 (hs.rep _)⟩
      subst z
      cases hs
      exact w1 rfl
    · rename_i a xs vs ht hs j
      obtain ⟨⟨w1, w2, w3⟩, w5⟩ := w
      exact op_rep pins s σ H _ _ v u Q I rx ry ⟨_, _, _, rfl, rfl, ht, w1, by unfold big at w2; omega, by rw [← hs.length]; exact big_line w3, p.lst r w5 (hs.rep _)⟩
  | mulL =>
    cases vx <;> cases vy <;> first | exact w.elim | skip
    rename_i a xs vs ht hs j
    obtain ⟨⟨w1, w2, w3⟩, w5⟩ := w
    exact op_rep pins s σ H _ _ v u Q I rx ry ⟨_, _, _, rfl, rfl, ht, w1, by unfold big at w2; omega, by rw [← hs.length]; exact big_line w3, p.new r w5 (hs.rep _)⟩
  | fdiv =>
    cases vx <;> cases vy <;> first | exact w.elim | skip
    exact op_fdivW pins s σ H _ _ v u Q I rx ry ⟨_, _, rfl, rfl, w.1, p.here r w.2 (.int _)⟩
  | mod =>
    cases vx <;> cases vy <;> first | exact w.elim | skip
    exact op_mod pins s σ H _ _ v u Q I rx ry ⟨_, _, rfl, rfl, w.1, p.here r w.2 (.int _)⟩
  | pow =>
    cases vx <;> cases vy <;> first | exact w.elim | skip
    exact op_powW pins s σ H _ _ v u Q I rx ry ⟨_, _, rfl, rfl, w.1, p.here r w.2 (.int _)⟩

/-! ### comparisons -/
def cmB : Cm → CmpOp
  | .eq => .Eq
  | .ne => .NotEq
  | .lt => .Lt
  | .le => .LtE
  | .gt => .Gt
  | .ge => .GtE
  | .inn => .In
  | .nin => .NotIn
  | .is_ => .Is
  | .isnt => .IsNot
mutual
theorem pd_plain : ∀ d : D, d.pure = true → d.pd.plain = true
  | .non, _ => rfl
  | .bl _, _ => rfl
  | .int _, _ => rfl
  | .str _, _ => rfl
  | .tup xs, h => pds_plain xs h
  | .lst xs, h => pds_plain xs h
  | .ro _, h => by simp [D.pure] at h
  | .dct _ _, h => by simp [D.pure] at h
  | .loc _, h => by simp [D.pure] at h
  | .glo _, h => by simp [D.pure] at h
  | .tab _ _, h => by simp [D.pure] at h
theorem pds_plain : ∀ ds : List D, D.pures ds = true → PyData.plainAll (D.pds ds) = true
  | [], _ => rfl
  | d :: ds, h => by
    have h' : d.pure = true ∧ D.pures ds = true := by simpa [D.pures] using h
    show (d.pd.plain && PyData.plainAll (D.pds ds)) = true
    rw [pd_plain d h'.1, pds_plain ds h'.2]
    rfl
end
mutual
theorem pd_eqv : ∀ d e : D, d.pure = true → e.pure = true → PyData.eqv d.pd e.pd = D.eqv d e
  | d, e, hd, he => by
    cases d with
    | ro _ => simp [D.pure] at hd
    | dct _ _ => simp [D.pure] at hd
    | loc _ => simp [D.pure] at hd
    | glo _ => simp [D.pure] at hd
    | tab _ _ => simp [D.pure] at hd
    | tup xs =>
      cases e with
      | tup ys => exact pds_eqv xs ys hd he
      | ro _ => simp [D.pure] at he
      | dct _ _ => simp [D.pure] at he
      | loc _ => simp [D.pure] at he
      | glo _ => simp [D.pure] at he
      | tab _ _ => simp [D.pure] at he
      | _ => rfl
    | lst xs =>
      cases e with
      | lst ys => exact pds_eqv xs ys hd he
      | ro _ => simp [D.pure] at he
      | dct _ _ => simp [D.pure] at he
      | loc _ => simp [D.pure] at he
      | glo _ => simp [D.pure] at he
      | tab _ _ => simp [D.pure] at he
      | _ => rfl
    | _ =>
      cases e with
      | ro _ => simp [D.pure] at he
      | dct _ _ => simp [D.pure] at he
      | loc _ => simp [D.pure] at he
      | glo _ => simp [D.pure] at he
      | tab _ _ => simp [D.pure] at he
      | _ => rfl
theorem pds_eqv : ∀ ds es : List D, D.pures ds = true → D.pures es = true → PyData.eqvAll (D.pds ds) (D.pds es) = D.eqvs ds es
  | [], [], _, _ => rfl
  | [], _ :: _, _, _ => rfl
  | _ :: _, [], _, _ => rfl
  | d :: ds, e :: es, hd, he => by
    have hd' : d.pure = true ∧ D.pures ds = true := by simpa [D.pures] using hd
    have he' : e.pure = true ∧ D.pures es = true := by simpa [D.pures] using he
    show (PyData.eqv d.pd e.pd && PyData.eqvAll (D.pds ds) (D.pds es)) = (D.eqv d e && D.eqvs ds es)
    rw [pd_eqv d e hd'.1 he'.1, pds_eqv ds es hd'.2 he'.2]
end
mutual
theorem pd_depth : ∀ d : D, d.pd.depth = d.depth
  | .non => rfl
  | .bl _ => rfl
  | .int _ => rfl
  | .str _ => rfl
  | .tup xs => congrArg (· + 1) (pds_depth xs)
  | .lst xs => congrArg (· + 1) (pds_depth xs)
  | .ro _ => rfl
  | .dct _ _ => rfl
  | .loc _ => rfl
  | .glo _ => rfl
  | .tab _ _ => rfl
theorem pds_depth : ∀ ds : List D, PyData.depthAll (D.pds ds) = D.depths ds
  | [] => rfl
  | d :: ds => by
    show max d.pd.depth (PyData.depthAll (D.pds ds)) = Nat.max d.depth (D.depths ds)
    rw [pd_depth d, pds_depth ds]
end
section
variable {K : PySem.W.Frag} {H : Hp} {st : Store}
mutual
theorem RD.dp : ∀ {d : D} {v : V}, RD F K gv H st d v → d.pure = true → Dp K H v d.pd
  | _, _, .non, _ => .non
  | _, _, .bl b, _ => .bl b
  | _, _, .int i, _ => .int i
  | _, _, .str x, _ => .str x
  | _, _, .tup h hs, p => .tup h.seq (RDs.dp hs p)
  | _, _, .lst h _ _ hs, p => .lst (SqL.of h) (RDs.dp hs p)
  | _, _, .ro _ _, p => by simp [D.pure] at p
  | _, _, .dct0 _ _ _, p => by simp [D.pure] at p
  | _, _, .loc _, p => by simp [D.pure] at p
  | _, _, .glo _, p => by simp [D.pure] at p
  | _, _, .tab _ _ _, p => by simp [D.pure] at p
theorem RDs.dp : ∀ {ds : List D} {vs : List V}, RDs F K gv H st ds vs → D.pures ds = true → DpAll K H vs (D.pds ds)
  | _, _, .nil, _ => .nil
  | _, _, .cons (x := d) (xs := ds) a b, p => by
    have p' : d.pure = true ∧ D.pures ds = true := by simpa [D.pures] using p
    exact .cons (RD.dp a p'.1) (RDs.dp b p'.2)
end
theorem Vw.dp {d : D} {v : V} (h : Vw F K gv H st d v) (p : d.pure = true) : Dp K H v d.pd := by
  cases h with
  | non => exact .non
  | bl b => exact .bl b
  | int i => exact .int i
  | str x => exact .str x
  | tup h hs => exact .tup h.seq (hs.dp p)
  | lst h hs => exact .lst (SqL.of h) (hs.dp p)
  | ro _ _ => simp [D.pure] at p
  | dct0 _ => simp [D.pure] at p
  | glo _ => simp [D.pure] at p
  | tab _ _ _ => simp [D.pure] at p
end
theorem pds_any {x : D} (hx : x.pure = true) : ∀ ys : List D, D.pures ys = true → ((D.pds ys).any fun y => PyData.eqv y x.pd) = inD x ys
  | [], _ => rfl
  | y :: ys, p => by
    have p' : y.pure = true ∧ D.pures ys = true := by simpa [D.pures] using p
    show (PyData.eqv y.pd x.pd || (D.pds ys).any fun y => PyData.eqv y x.pd) = (D.eqv y x || inD x ys)
    rw [pd_eqv y x p'.1 hx, pds_any hx ys p'.2]
def rCmp (F : Addr → Prop) (X : Cx) (gv : GV) (o : Cm) : R2 := fun x y H Q => ∃ st dx dy P, RS F X.K gv H st ∧ RD F X.K gv H st dx x ∧ RD F X.K gv H st dy y ∧ cmpW o dx dy st P ∧ ∀ b, P b → Q (.bl b) H
theorem PD_depth_tuple {xs : List PyData} : (PyData.tuple xs).depth = PyData.depthAll xs + 1 := rfl
section
variable {H : Hp} {s : Shared} {pins : List (Addr × Obj)} {σ : L2.St} {a b : Addr} {vs us : List V} {E : Value → Shared → Prop} {Q : Value → Shared → Prop}
theorem empties (I : Inv X pins σ H s) (h1 : SqT X.K H a vs) (h2 : SqT X.K H b []) : ∃ its : List Value, its.isEmpty = vs.isEmpty ∧ s.heap.IsTuple a its.toArray ∧ s.heap.IsTuple b #[] := by
  obtain ⟨its, r1, ⟨o1, k1, c1, n1, d1⟩, _⟩ := I.tuple h1
  obtain ⟨its2, r2, ⟨o2, k2, c2, n2, d2⟩, _⟩ := I.tuple h2
  cases r2
  refine ⟨its, ?_, ⟨o1, k1, c1, n1, d1⟩, ⟨o2, k2, c2, n2, d2⟩⟩
  cases r1 <;> rfl
theorem emptiesL (I : Inv X pins σ H s) (h1 : H a = some (.lst vs)) (h2 : H b = some (.lst [])) : ∃ its : List Value, its.isEmpty = vs.isEmpty ∧ s.heap.IsList a its.toArray ∧ s.heap.IsList b #[] := by
  obtain ⟨_, its, n, r1, _, e1⟩ := I.lstM h1
  obtain ⟨_, its2, n2, r2, _, e2⟩ := I.lstM h2
  cases r2
  refine ⟨its, ?_, ⟨_, e1, rfl, n, rfl⟩, ⟨_, e2, rfl, n2, rfl⟩⟩
  cases r1 <;> rfl
theorem eq_empty (hu : X.A.units < cLine) (I : Inv X pins σ H s) (h1 : SqT X.K H a vs) (h2 : SqT X.K H b [])
    (q : Q (.bool vs.isEmpty) s) : wpAny (model X.prog X.w) X.A (compareOp .Eq (.ref a) (.ref b)) Q E s := by
  obtain ⟨its, e, k1, k2⟩ := empties I h1 h2
  rw [← e] at q
  refine SeqAt.RcAt.tuples (e := fun _ => true) k1 k2 hu (fun j _ j2 => absurd j2 (by simp)) X.prog X.w E Q ?_
  cases its with
  | nil => exact q
  | cons _ _ => exact q
theorem ne_empty (hu : X.A.units < cLine) (I : Inv X pins σ H s) (h1 : SqT X.K H a vs) (h2 : SqT X.K H b [])
    (q : Q (.bool !vs.isEmpty) s) : wpAny (model X.prog X.w) X.A (compareOp .NotEq (.ref a) (.ref b)) Q E s := by
  obtain ⟨its, e, k1, k2⟩ := empties I h1 h2
  rw [← e] at q
  refine SeqAt.RcNeAt.tuples (e := fun _ => true) k1 k2 hu (fun j _ j2 => absurd j2 (by simp)) X.prog X.w E Q ?_
  cases its with
  | nil => exact q
  | cons _ _ => exact q
theorem eq_emptyL (hu : X.A.units < cLine) (I : Inv X pins σ H s) (h1 : H a = some (.lst vs)) (h2 : H b = some (.lst []))
    (q : Q (.bool vs.isEmpty) s) : wpAny (model X.prog X.w) X.A (compareOp .Eq (.ref a) (.ref b)) Q E s := by
  obtain ⟨its, e, k1, k2⟩ := emptiesL I h1 h2
  rw [← e] at q
  cases its with
  | nil => exact SeqAt.RcAt.lists (e := fun _ => true) k1 k2 rfl hu (fun j _ j2 => absurd j2 (by simp)) X.prog X.w E Q q
  | cons y ys => exact SeqAt.RcAt.lists_lengths k1 k2 (by simp) hu X.prog X.w E Q q
theorem ne_emptyL (hu : X.A.units < cLine) (I : Inv X pins σ H s) (h1 : H a = some (.lst vs)) (h2 : H b = some (.lst []))
    (q : Q (.bool !vs.isEmpty) s) : wpAny (model X.prog X.w) X.A (compareOp .NotEq (.ref a) (.ref b)) Q E s := by
  obtain ⟨its, e, k1, k2⟩ := emptiesL I h1 h2
  rw [← e] at q
  cases its with
  | nil => exact SeqAt.RcNeAt.lists (e := fun _ => true) k1 k2 rfl hu (fun j _ j2 => absurd j2 (by simp)) X.prog X.w E Q q
  | cons y ys => exact SeqAt.RcNeAt.lists_lengths k1 k2 (by simp) hu X.prog X.w E Q q
end
theorem isE {K : PySem.W.Frag} {H : Hp} {st : Store} {xs : List D} {vs : List V} (h : RDs F K gv H st xs vs) : vs.isEmpty = xs.isEmpty := by
  cases h <;> rfl
theorem shallow_room {A : Around} {x y : D} (hu : A.units + 64 < cLine) (h : shallow x y) : A.units + min x.pd.depth y.pd.depth < cLine := by
  rw [pd_depth, pd_depth]
  unfold shallow at h
  omega
theorem cmp_pure {H : Hp} {s : Shared} {pins : List (Addr × Obj)} {σ : L2.St} {st : Store} {x y : D} {a b : V} {v u : Value} (hu : X.A.units + 64 < cLine) (I : Inv X pins σ H s) (hx : Vw F X.K gv H st x a) (hy : Vw F X.K gv H st y b) (rx : RelV a v) (ry : RelV b u)
    (px : x.pure = true) (py : y.pure = true) (hs : shallow x y) :
    (∀ {E Q}, Q (.bool (D.eqv x y)) s → wpAny (model X.prog X.w) X.A (compareOp .Eq v u) Q E s) ∧ (∀ {E Q}, Q (.bool !(D.eqv x y)) s → wpAny (model X.prog X.w) X.A (compareOp .NotEq v u) Q E s) := by
  obtain ⟨as, r1⟩ := Dp.reads I x.pd a v (hx.dp px) rx
  obtain ⟨bs, r2⟩ := Dp.reads I y.pd b u (hy.dp py) ry
  rw [← pd_eqv x y px py]
  exact ⟨fun q => SeqAt.eq_plain r1 r2 (pd_plain x px) (pd_plain y py) (shallow_room hu hs) q, fun q => SeqAt.ne_plain r1 r2 (pd_plain x px) (pd_plain y py) (shallow_room hu hs) q⟩
/-- == or != -/
theorem opr_eq (hu : X.A.units + 64 < cLine) (neg : Bool) {H : Hp} {s : Shared} {pins : List (Addr × Obj)} {σ : L2.St} {st : Store} {x y : D} {a b : V} {v u : Value} {P : Bool → Prop} {Q : VK} (I : Inv X pins σ H s) (hx : Vw F X.K gv H st x a) (hy : Vw F X.K gv H st y b) (rx : RelV a v) (ry : RelV b u)
    (w : eqW x y fun b => P (if neg then !b else b)) (p : ∀ b, P b → Q (.bl b) H) : wpAny (model X.prog X.w) X.A (compareOp (if neg then .NotEq else .Eq) v u) (EP X pins σ Q) X.xe s := by
  have fin : ∀ k, P k → EP X pins σ Q (.bool k) s := fun k q => ⟨.bl k, H, I, rfl, p k q⟩
  have gen : x.pure = true → y.pure = true → shallow x y → P (if neg then !(D.eqv x y) else D.eqv x y) → wpAny (model X.prog X.w) X.A (compareOp (if neg then .NotEq else .Eq) v u) (EP X pins σ Q) X.xe s := fun px py hs q => by
    have c := cmp_pure hu I hx hy rx ry px py hs
    cases neg with
    | true => exact c.2 (fin _ q)
    | false => exact c.1 (fin _ q)
  unfold eqW at w
  split at w
  · cases hx with
    | tup h1 hs1 =>
      cases hy with
      | tup h2 hs2 =>
        cases hs2
        cases rx
        cases ry
        rw [← isE hs1] at w
        cases neg with
        | true => exact ne_empty (by omega) I h1.seq h2.seq (fin _ w)
        | false => exact eq_empty (by omega) I h1.seq h2.seq (fin _ w)
  · cases hx with
    | lst h1 hs1 =>
      cases hy with
      | lst h2 hs2 =>
        cases hs2
        cases rx
        cases ry
        rw [← isE hs1] at w
        cases neg with
        | true => exact ne_emptyL (by omega) I h1 h2 (fin _ w)
        | false => exact eq_emptyL (by omega) I h1 h2 (fin _ w)
  · exact gen w.1 w.2.1 w.2.2.1 w.2.2.2
end
end Mi
/-! ## M3: comparisons, subscripts, built-ins, methods, by values -/
namespace Mi
open PySem PySem.Spec PyProof.Rows L2
section
variable {F : Addr → Prop} {X : Cx} {gv : GV}
theorem pyin (hu : X.A.units + 64 < cLine) (neg : Bool) {H : Hp} {s : Shared} {pins : List (Addr × Obj)} {σ : L2.St} {st : Store} {x : D} {ys : List D} {a b : V} {v u : Value} {E : Value → Shared → Prop} {Q : Value → Shared → Prop} (I : Inv X pins σ H s)
    (hx : Vw F X.K gv H st x a) (hy : Vw F X.K gv H st (.lst ys) b ∨ Vw F X.K gv H st (.tup ys) b) (rx : RelV a v) (ry : RelV b u) (px : x.pure = true) (py : D.pures ys = true) (hd : x.depth ≤ 60) (q : Q (.bool (if neg then !(inD x ys) else inD x ys)) s) :
    wpAny (model X.prog X.w) X.A (compareOp (if neg then .NotIn else .In) v u) Q E s := by
  obtain ⟨as, r1⟩ := Dp.reads I x.pd a v (hx.dp px) rx
  have room : X.A.units + 1 + min (PyData.depthAll (D.pds ys)) x.pd.depth < cLine := by
    rw [pd_depth]
    omega
  rw [← pds_any px ys py] at q
  rcases hy with hy | hy
  · obtain ⟨bs, r2⟩ := Dp.reads I (D.lst ys).pd b u (hy.dp py) ry
    cases neg with
    | true => exact SeqAt.notIn_list_data r2 r1 (pds_plain ys py) (pd_plain x px) room q
    | false => exact SeqAt.in_list_data r2 r1 (pds_plain ys py) (pd_plain x px) room q
  · obtain ⟨bs, r2⟩ := Dp.reads I (D.tup ys).pd b u (hy.dp py) ry
    cases neg with
    | true => exact SeqAt.notIn_tuple_data r2 r1 (pds_plain ys py) (pd_plain x px) room q
    | false => exact SeqAt.in_tuple_data r2 r1 (pds_plain ys py) (pd_plain x px) room q
theorem zip_look {ks : List Str} : ∀ {us : List Value}, ks.length = us.length → ∀ z : Str, ((ks.zip us).lookup z).isSome = ks.contains z := by
  induction ks with
  | nil => exact fun _ _ => rfl
  | cons k ks ih =>
    intro us hl z
    cases us with
    | nil => cases hl
    | cons u us =>
      rw [List.zip_cons_cons, List.lookup_cons, List.contains_cons]
      cases q : z == k with
      | true => rfl
      | false => rw [ih (by simpa using hl) z, Bool.false_or]
theorem opr_cmp (hu : X.A.units + 64 < cLine) (hw : gv.w = X.w) (o : Cm) : OpR X (compareOp (cmB o)) (rCmp F X gv o) := by
  intro pins s σ H x y v u Q I rx ry h
  obtain ⟨st, dx, dy, P, r, hx, hy, w, p⟩ := h
  have vx := hx.view r
  have vy := hy.view r
  unfold cmpW at w
  generalize der st dx = ex at w vx
  generalize der st dy = ey at w vy
  cases o with
  | eq =>
    have w' : eqW ex ey P := w
    exact opr_eq hu false I vx vy rx ry w' p
  | ne =>
    have w' : eqW ex ey (fun b => P !b) := w
    exact opr_eq hu true I vx vy rx ry w' p
  | lt =>
    cases vx <;> cases vy <;> first | exact w.elim | skip
    · exact op_lt pins s σ H _ _ v u Q I rx ry ⟨_, _, rfl, rfl, p _ w⟩
    · exact op_lt_str pins s σ H _ _ v u Q I rx ry ⟨_, _, rfl, rfl, p _ w⟩
  | le =>
    cases vx <;> cases vy <;> first | exact w.elim | skip
    exact op_le pins s σ H _ _ v u Q I rx ry ⟨_, _, rfl, rfl, p _ w⟩
  | gt =>
    cases vx <;> cases vy <;> first | exact w.elim | skip
    exact op_gt pins s σ H _ _ v u Q I rx ry ⟨_, _, rfl, rfl, p _ w⟩
  | ge =>
    cases vx <;> cases vy <;> first | exact w.elim | skip
    exact op_ge pins s σ H _ _ v u Q I rx ry ⟨_, _, rfl, rfl, p _ w⟩
  | inn =>
    have fin : ∀ k, P k → EP X pins σ Q (.bool k) s := fun k q => ⟨.bl k, H, I, rfl, p k q⟩
    cases vy <;> first | exact w.elim | skip
    · cases vx <;> first | exact w.elim | skip
      exact op_in_str pins s σ H _ _ v u Q I rx ry ⟨_, _, rfl, rfl, p _ w⟩
    · rename_i a xs vs h hs
      exact pyin hu false I vx (.inr (.tup h hs)) rx ry w.1.1 w.1.2.1 w.1.2.2 (fin _ w.2)
    · rename_i a xs vs h hs
      exact pyin hu false I vx (.inl (.lst h hs)) rx ry w.1.1 w.1.2.1 w.1.2.2 (fin _ w.2)
    · rename_i a ks us ds vs h r hs
      cases vx <;> first | exact w.elim | skip
      rename_i z
      obtain ⟨es, n, kd⟩ := h.kd
      rw [hw] at kd
      refine op_in_kd kd pins s σ H _ _ v u Q I rx ry ⟨z, _, rfl, rfl, h.get z, ?_⟩
      rw [zip_look h.len]
      exact p _ w
  | nin =>
    have fin : ∀ k, P k → EP X pins σ Q (.bool k) s := fun k q => ⟨.bl k, H, I, rfl, p k q⟩
    cases vy <;> first | exact w.elim | skip
    · cases vx <;> first | exact w.elim | skip
      exact op_notin_str pins s σ H _ _ v u Q I rx ry ⟨_, _, rfl, rfl, p _ w⟩
    · rename_i a xs vs h hs
      exact pyin hu true I vx (.inr (.tup h hs)) rx ry w.1.1 w.1.2.1 w.1.2.2 (fin _ w.2)
    · rename_i a xs vs h hs
      exact pyin hu true I vx (.inl (.lst h hs)) rx ry w.1.1 w.1.2.1 w.1.2.2 (fin _ w.2)
    · rename_i a ks us ds vs h r hs
      cases vx <;> first | exact w.elim | skip
      rename_i z
      obtain ⟨es, n, kd⟩ := h.kd
      rw [hw] at kd
      refine op_notIn_kd kd pins s σ H _ _ v u Q I rx ry ⟨z, _, rfl, rfl, h.get z, ?_⟩
      rw [zip_look h.len]
      exact p _ w
  | is_ =>
    cases vy <;> first | exact w.elim | skip
    · refine op_isN pins s σ H _ _ v u Q I rx ry ⟨rfl, ?_⟩
      have e : decide (x = V.non) = isNon ex := by cases vx <;> rfl
      rw [e]
      exact p _ w
    · cases vx <;> first | exact w.elim | skip
      rename_i b a
      refine op_isBl pins s σ H _ _ v u Q I rx ry ⟨_, _, rfl, rfl, ?_⟩
      have e : decide (a = b) = (a == b) := by cases a <;> cases b <;> rfl
      rw [e]
      exact p _ w
  | isnt =>
    cases vy <;> first | exact w.elim | skip
    · refine op_notN pins s σ H _ _ v u Q I rx ry ⟨rfl, ?_⟩
      have e : decide (x = V.non) = isNon ex := by cases vx <;> rfl
      rw [e]
      exact p _ w
    · cases vx <;> first | exact w.elim | skip
      rename_i b a
      refine op_notBl pins s σ H _ _ v u Q I rx ry ⟨_, _, rfl, rfl, ?_⟩
      have e : decide (a = b) = (a == b) := by cases a <;> cases b <;> rfl
      rw [e]
      exact p _ w

/-! ### subscripts, slices -/
def rIxM (F : Addr → Prop) (X : Cx) (gv : GV) : R2 := fun x y H Q => ∃ st dx dy Q', RS F X.K gv H st ∧ RD F X.K gv H st dx x ∧ RD F X.K gv H st dy y ∧ ixW dx dy st Q' ∧ Pst F X gv st H Q' Q
theorem at_get {xs : List D} {vs : List V} {K : PySem.W.Frag} {H : Hp} {st : Store} {i : Int} {d : D} (h : RDs F K gv H st xs vs) (e : at_ xs i = some d) : ∃ v, atI vs i = some v ∧ RD F K gv H st d v := by
  unfold at_ at e
  cases q : place xs.length i with
  | none => rw [q] at e; cases e
  | some j =>
    rw [q] at e
    obtain ⟨v, h1, h2⟩ := h.get (i := j) (d := d) e
    refine ⟨v, ?_, h2⟩
    unfold atI
    have q' : ixN vs.length i = some j := by rw [← h.length]; exact q
    rw [q']
    exact h1
theorem ixr : IxR X (rIxM F X gv) := by
  intro value slice pins s σ H x y v u Q I rx ry h hs
  obtain ⟨st, dx, dy, Q', r, hx, hy, w, p⟩ := h
  have vx := hx.view r
  unfold ixW at w
  generalize der st dx = ex at w vx
  cases hy with
  | int i =>
    cases vx <;> first | exact w.elim | skip
    all_goals obtain ⟨d, e, w⟩ := w
    · rename_i a xs vs h1 h2
      obtain ⟨z, e2, rz⟩ := at_get h2 e
      exact ix_tup value slice pins s σ H _ _ v u Q I rx ry ⟨_, _, _, _, rfl, rfl, h1.seq, e2, p.here r w rz⟩ hs
    · rename_i a xs vs h1 h2
      obtain ⟨z, e2, rz⟩ := at_get h2 e
      exact ix_list value slice pins s σ H _ _ v u Q I rx ry ⟨_, _, _, _, rfl, rfl, SqL.of h1, e2, p.here r w rz⟩ hs
    · rename_i a xs vs h1 h2
      obtain ⟨z, e2, rz⟩ := at_get h2 e
      exact ix_list value slice pins s σ H _ _ v u Q I rx ry ⟨_, _, _, _, rfl, rfl, h1.seq, e2, p.here r w rz⟩ hs
  | _ => cases vx <;> exact w.elim
theorem cut_ok {xs : List D} {vs : List V} {K : PySem.W.Frag} {H : Hp} {st : Store} (lo hi : Option Int) (h : RDs F K gv H st xs vs) : RDs F K gv H st (cut xs lo hi) (cutV vs lo hi) := by
  have e : ∀ d o, HT.sIx vs.length d o = clip xs.length d o := fun d o => by
    rw [h.length]
    cases o <;> rfl
  unfold cut cutV
  rw [e, e, h.length]
  exact (h.drop _).take _
def rSlM (F : Addr → Prop) (X : Cx) (gv : GV) : V → Option Int → Option Int → Hp → VK → Prop := fun x lo hi H Q => ∃ st dx Q', RS F X.K gv H st ∧ RD F X.K gv H st dx x ∧ slW dx lo hi st Q' ∧ Pst F X gv st H Q' Q
theorem slr : SlR X (rSlM F X gv) := by
  intro pins s σ H x v vl vu lo hi sl Q I rx hs pl pu h
  obtain ⟨st, dx, Q', r, hx, w, p⟩ := h
  have vx := hx.view r
  unfold slW at w
  generalize der st dx = ex at w vx
  cases vx <;> first | exact w.elim | skip
  · rename_i a xs vs h1 h2
    refine sl_tupA pins s σ H _ v vl vu lo hi sl Q I rx hs pl pu ⟨_, _, rfl, h1.seq, fun z => ?_, fun _ => p.tup r w (cut_ok lo hi h2)⟩
    refine p.here r w (.tup h1 ?_)
    have e : cut xs lo hi = xs := by
      have l := h2.length
      have c1 : clip xs.length 0 lo = 0 := by rw [l]; cases lo <;> exact z.1
      have c2 : clip xs.length xs.length hi = xs.length := by rw [l]; cases hi <;> exact z.2
      unfold cut
      rw [c1, c2]
      simp
    rw [e]
    exact h2
  · rename_i a xs vs h1 h2
    exact sl_list pins s σ H _ v vl vu lo hi sl Q I rx hs pl pu ⟨_, _, rfl, SqL.of h1, p.lst r w (cut_ok lo hi h2)⟩

/-! ### built-ins -/
def biF : Bi → Value
  | .len => .builtin "len"
  | .abs => .builtin "abs"
  | .int => .type "int"
  | .all => .builtin "all"
  | .any => .builtin "any"
  | .sum => .builtin "sum"
  | .min1 | .min2 => .builtin "min"
  | .max1 | .max2 => .builtin "max"
  | .sorted | .sortedL => .builtin "sorted"
  | .list | .listL => .type "list"
  | .tuple => .type "tuple"
  | .dict | .dictL => .type "dict"
  | .repr => .builtin "repr"
  | .str => .type "str"
  | .range1 | .range2 => .type "range"
def rBi (F : Addr → Prop) (X : Cx) (gv : GV) (b : Bi) : List V → Hp → VK → Prop := fun xs H Q => ∃ st ds Q', RS F X.K gv H st ∧ RDs F X.K gv H st ds xs ∧ biW b ds st Q' ∧ Pst F X gv st H Q' Q
theorem ints_vals {K : PySem.W.Frag} {H : Hp} {st : Store} : ∀ {xs : List D} {vs : List V} {ns : List Int}, RDs F K gv H st xs vs → intsD xs = some ns → vs = ns.map V.int
  | _, _, ns, .nil, e => by
    cases e
    rfl
  | _, _, ns, .cons (x := x) (xs := r) a b, e => by
    cases a <;> first | (simp [intsD] at e; done) | skip
    rename_i i
    have e' : (intsD r).map (i :: ·) = some ns := e
    cases q : intsD r with
    | none => rw [q] at e'; cases e'
    | some ms =>
      rw [q] at e'
      cases e'
      rw [ints_vals b q]
      rfl
theorem bools_pd : ∀ {xs : List D} {bs : List Bool}, allB xs = some bs → D.pures xs = true ∧ D.pds xs = bs.map PyData.bool
  | [], bs, e => by
    cases e
    exact ⟨rfl, rfl⟩
  | x :: r, bs, e => by
    cases x <;> first | (simp [allB] at e; done) | skip
    rename_i b
    have e' : (allB r).map (b :: ·) = some bs := e
    cases q : allB r with
    | none => rw [q] at e'; cases e'
    | some ms =>
      rw [q] at e'
      cases e'
      obtain ⟨h1, h2⟩ := bools_pd q
      refine ⟨?_, ?_⟩
      · show (true && D.pures r) = true
        rw [h1]
        rfl
      · show PyData.bool b :: D.pds r = _
        rw [h2]
        rfl
mutual
theorem plain_noDict : ∀ d : PyData, d.plain = true → d.hasDict = false
  | .none, _ => rfl
  | .bool _, _ => rfl
  | .int _, _ => rfl
  | .str _, _ => rfl
  | .list xs, h => plain_noDicts xs h
  | .tuple xs, h => plain_noDicts xs h
  | .dict _, h => by simp [PyData.plain] at h
theorem plain_noDicts : ∀ ds : List PyData, PyData.plainAll ds = true → PyData.hasDictAll ds = false
  | [], _ => rfl
  | d :: ds, h => by
    have h' : d.plain = true ∧ PyData.plainAll ds = true := by simpa [PyData.plainAll] using h
    show (d.hasDict || PyData.hasDictAll ds) = false
    rw [plain_noDict d h'.1, plain_noDicts ds h'.2]
    rfl
end
theorem bir (hc : X.calm = true) (hu : X.A.units + 128 < cLine) (hg : X.A.guards = some []) (b : Bi) : CallR X (biF b) (rBi F X gv b) := by
  intro pins s σ H vs us Q I rv h
  obtain ⟨st, ds, Q', r, hs, w, p⟩ := h
  cases hs with
  | nil => exact w.elim
  | @cons d v0 ds' vs' h1 h2 =>
    have v1 := h1.view r
    cases h2 with
    | nil =>
      have w : bi1 b (der st d) st Q' := w
      generalize der st d = e at w v1
      cases b with
      | len =>
        cases v1 <;> first | exact w.elim | skip
        · exact call_len_str pins s σ H _ us Q I rv ⟨_, rfl, big_line w.1, p.here r w.2 (.int _)⟩
        · rename_i a xs ws k1 k2
          have w : Q' (.int xs.length) st := w
          rw [k2.length] at w
          exact call_len_seq pins s σ H _ us Q I rv ⟨_, _, rfl, .inr k1.seq, p.here r w (.int _)⟩
        · rename_i a xs ws k1 k2
          have w : Q' (.int xs.length) st := w
          rw [k2.length] at w
          exact call_len_seq pins s σ H _ us Q I rv ⟨_, _, rfl, .inl (SqL.of k1), p.here r w (.int _)⟩
        · rename_i a xs ws k1 k2
          have w : Q' (.int xs.length) st := w
          rw [k2.length] at w
          exact call_len_seq pins s σ H _ us Q I rv ⟨_, _, rfl, .inl k1.seq, p.here r w (.int _)⟩
      | abs =>
        cases v1 <;> first | exact w.elim | skip
        exact call_abs pins s σ H _ us Q I rv ⟨_, rfl, p.here r w (.int _)⟩
      | int =>
        cases v1 <;> first | exact w.elim | skip
        · exact call_int1 pins s σ H _ us Q I rv (.inr ⟨_, rfl, p.here r w (.int _)⟩)
        · exact call_int1 pins s σ H _ us Q I rv (.inl ⟨_, rfl, p.here r w (.int _)⟩)
      | all =>
        cases v1 <;> first | exact w.elim | skip
        rename_i a xs ws k1 k2
        obtain ⟨bs, e1, w⟩ := w
        obtain ⟨e2, e3⟩ := bools_pd e1
        obtain ⟨u, rfl, ru⟩ := vals1 rv
        cases ru
        obtain ⟨its, rs, pl, _⟩ := I.list (SqL.of k1)
        obtain ⟨as, hr⟩ := Dp.readsAll I _ _ its (k2.dp e2) rs
        refine PySem.W.all_list_data (I.ok.hd hc) pl.isList hr (pds_plain xs e2) (fun x hx => ?_) fun h' tk kp => ?_
        · rw [e3] at hx
          obtain ⟨b, _, rfl⟩ := List.mem_map.mp hx
          exact trivial
        · refine ⟨.bl (bs.all id), H, I.kept kp, ?_, p.here r w (.bl _)⟩
          show Value.bool _ = Value.bool _
          congr 1
          rw [e3, List.all_map]
          rfl
      | any =>
        cases v1 <;> first | exact w.elim | skip
        rename_i a xs ws k1 k2
        obtain ⟨bs, e1, w⟩ := w
        obtain ⟨e2, e3⟩ := bools_pd e1
        obtain ⟨u, rfl, ru⟩ := vals1 rv
        cases ru
        obtain ⟨its, rs, pl, _⟩ := I.list (SqL.of k1)
        obtain ⟨as, hr⟩ := Dp.readsAll I _ _ its (k2.dp e2) rs
        refine PySem.W.any_list_data (I.ok.hd hc) pl.isList hr (pds_plain xs e2) (fun x hx => ?_) fun h' tk kp => ?_
        · rw [e3] at hx
          obtain ⟨b, _, rfl⟩ := List.mem_map.mp hx
          exact trivial
        · refine ⟨.bl (bs.any id), H, I.kept kp, ?_, p.here r w (.bl _)⟩
          show Value.bool _ = Value.bool _
          congr 1
          rw [e3, List.any_map]
          rfl
      | sum =>
        cases v1 <;> first | exact w.elim | skip
        rename_i a xs ws k1 k2
        obtain ⟨ns, e1, w⟩ := w
        have e2 := ints_vals k2 e1
        subst e2
        obtain ⟨u, rfl, ru⟩ := vals1 rv
        cases ru
        obtain ⟨its, rs, pl, _⟩ := I.list (SqL.of k1)
        refine sum_raw (I.ok.hd hc) pl.isList (Vals.ints rs) fun h' tk t' kp => ?_
        exact ⟨.int ns.sum, H, I.kept kp, ⟨_, rfl⟩, p.here r w (.int _)⟩
      | list =>
        cases v1 <;> first | exact w.elim | skip
        · rename_i a xs ws k1 k2
          exact call_list_of pins s σ H _ us Q I rv ⟨_, _, rfl, .inr k1.seq, p.lst r w k2⟩
        · rename_i a xs ws k1 k2
          exact call_list_of pins s σ H _ us Q I rv ⟨_, _, rfl, .inl (SqL.of k1), p.lst r w k2⟩
      | listL =>
        cases v1 <;> first | exact w.elim | skip
        · rename_i a xs ws k1 k2
          exact call_list_of pins s σ H _ us Q I rv ⟨_, _, rfl, .inr k1.seq, p.new r w k2⟩
        · rename_i a xs ws k1 k2
          exact call_list_of pins s σ H _ us Q I rv ⟨_, _, rfl, .inl (SqL.of k1), p.new r w k2⟩
      | tuple =>
        cases v1 <;> first | exact w.elim | skip
        · rename_i a xs ws k1 k2
          exact call_tuple_of pins s σ H _ us Q I rv ⟨_, _, rfl, .inr ⟨k1.seq, p.here r w (.tup k1 k2)⟩⟩
        · rename_i a xs ws k1 k2
          exact call_tuple_of pins s σ H _ us Q I rv ⟨_, _, rfl, .inl ⟨SqL.of k1, p.tup r w k2⟩⟩
      | repr =>
        obtain ⟨⟨w1, w2, w3, w4, w5⟩, w⟩ := w
        obtain ⟨u, rfl, ru⟩ := vals1 rv
        obtain ⟨as, hr⟩ := Dp.reads I _ _ u (v1.dp w2) ru
        have hd : e.pd.hasDict = false := plain_noDict _ (pd_plain e w2)
        have go : ∀ a, u = .ref a → wpAny (model X.prog X.w) X.A (call (.builtin "repr") [u]) (EP X pins σ Q) X.xe s := fun a ea => by
          subst ea
          refine repr_of_reads' hr w3 (fun z => by rw [hd] at z; cases z) hg (by rw [pd_depth]; omega) (fun _ _ k => k) (fun h' u tk kp => ?_) (big_line w5)
          exact ⟨.str e.pd.shown, H, I.kept kp, ⟨_, rfl⟩, p.here r w (.str _)⟩
        cases v1 <;> first | (simp [D.isSeq] at w1; done) | skip
        · cases ru
          exact go _ rfl
        · cases ru
          exact go _ rfl
      | _ => cases v1 <;> exact w.elim
    | @cons d2 v2 ds2 vs2 h2 h3 =>
      have v2' := h2.view r
      cases h3 with
      | nil =>
        have w : bi2 b (der st d) (der st d2) st Q' := w
        generalize der st d = e at w v1
        generalize der st d2 = e2 at w v2'
        cases b with
        | max2 =>
          cases v1 <;> cases v2' <;> first | exact w.elim | skip
          rename_i i j
          refine call_max2 hc pins s σ H _ us Q I rv ⟨_, _, rfl, p.here r w ?_⟩
          by_cases hij : j > i
          · rw [if_pos hij, if_pos (by simpa using hij)]
            exact .int _
          · rw [if_neg hij, if_neg (by simpa using hij)]
            exact .int _
        | min2 =>
          cases v1 <;> cases v2' <;> first | exact w.elim | skip
          rename_i i j
          refine call_min2 hc pins s σ H _ us Q I rv ⟨_, _, rfl, p.here r w ?_⟩
          by_cases hij : j < i
          · rw [if_pos hij, if_pos (by simpa using hij)]
            exact .int _
          · rw [if_neg hij, if_neg (by simpa using hij)]
            exact .int _
        | _ => cases v1 <;> cases v2' <;> exact w.elim
      | cons h3 h4 =>
        exact w.elim
end
end Mi
/-! ## M4: the syntax against the text; targets and what is walked -/
namespace Mi
open PySem PySem.Spec PyProof.Rows L2

/-- where code stands: the frame's names by slot, the scope, which of its names may be stored -/
structure RCx where
  N : List Str
  sc : Scope
  own : Str → Bool
  fs : List Str
  kw : Str → Nat → List Str → List Nat
def locB (c : RCx) (x : Str) : Bool := match c.sc.names.lookup x with
  | some .local => true
  | some .cell => true
  | _ => false
def visB (c : RCx) (x : Str) : Bool := match c.sc.names.lookup x with
  | some .local => true
  | some .cell => true
  | some .free => true
  | _ => false
def glB (c : RCx) (x : Str) : Bool := (match c.sc.names.lookup x with
  | some .globalImplicit => true
  | _ => false) && !(x == ("__debug__" : Str))
def rName (c : RCx) (i : Nat) (x : Str) : Bool := decide (c.N[i]? = some x) && visB c x && !(x == ("__debug__" : Str)) && !(x == ("__classdict__" : Str))
def rSto (c : RCx) (i : Nat) : Expr → Bool
  | .Name x _ => decide (c.N[i]? = some x) && locB c x && c.own x
  | _ => false
def rStos (c : RCx) : List Nat → List Expr → Bool
  | [], [] => true
  | i :: is, e :: es => rSto c i e && rStos c is es
  | _, _ => false
def rStar (c : RCx) (k : Nat) : List Nat → List Expr → Bool
  | [], [.Starred e _] => rSto c k e
  | i :: is, e :: es => rSto c i e && rStar c k is es
  | _, _ => false
def rTg (c : RCx) : Tg → Expr → Bool
  | .name i, e => rSto c i e
  | .tup is, .Tuple es _ _ => rStos c is es
  | .star is k, .Tuple es _ _ => rStar c k is es
  | _, _ => false
structure XN (c : RCx) (X : Cx) : Prop where
  N : X.N = c.N
  nd : X.N.Nodup
  sc : X.env.scope = c.sc
  own : ∀ x, c.own x = true → X.fn x = true ∨ X.env.scope.names.lookup x = some .local
  calm : X.calm = true
section
variable {F : Addr → Prop} {X : Cx} {c : RCx} {gv : GV}
theorem XN.vis (h : XN c X) {x : Str} (e : visB c x = true) : Vis X.env.scope x := by
  unfold visB at e
  unfold Vis
  rw [h.sc]
  split at e
  · exact .inl (by assumption)
  · exact .inr (.inl (by assumption))
  · exact .inr (.inr (by assumption))
  · cases e
theorem XN.loc (h : XN c X) {x : Str} (e : locB c x = true) : L2.Loc X.env.scope x := by
  unfold locB at e
  unfold L2.Loc
  rw [h.sc]
  split at e
  · exact .inl (by assumption)
  · exact .inr (by assumption)
  · cases e
theorem XN.gl (h : XN c X) {x : Str} (e : glB c x = true) : Gl X x ∧ (x == ("__debug__" : Str)) = false := by
  unfold glB at e
  obtain ⟨e1, e2⟩ := Bool.and_eq_true_iff.mp e
  refine ⟨?_, by simpa using e2⟩
  show X.env.scope.names.lookup x = some .globalImplicit
  rw [h.sc]
  split at e1
  · assumption
  · cases e1
/-! ### targets -/
theorem pg_sto (h : XN c X) {i : Nat} {e : Expr} (r : rSto c i e = true) : PG X e (gName i) := by
  cases e <;> first | (simp [rSto] at r; done) | skip
  rename_i x p
  unfold rSto at r
  obtain ⟨r1, r3⟩ := Bool.and_eq_true_iff.mp r
  obtain ⟨r1, r2⟩ := Bool.and_eq_true_iff.mp r1
  exact pg_name h.nd (by rw [h.N]; exact of_decide_eq_true r1) (h.loc r2) (h.own x r3)
def setAll : List Nat → List V → L2.St → L2.St
  | i :: is, v :: vs, σ => setAll is vs (σ.set i (some v))
  | _, _, σ => σ
def gAll (is : List Nat) : TGs := fun vs σ H Q => vs.length = is.length ∧ Q (setAll is vs σ) H
theorem pgs_weak {es : List Expr} {t t' : TGs} (h : PGs X es t) (w : ∀ vs σ H Q, t' vs σ H Q → t vs σ H Q) : PGs X es t' :=
  ⟨fun pins s σ H vs us Q I r q => h.run pins s σ H vs us Q I r (w vs σ H Q q)⟩
theorem not_star {i : Nat} {e : Expr} (r : rSto c i e = true) {env : PySem.Env} {es : List Expr} : assignEach (e :: es) env = (false, assign e env) :: assignEach es env := by
  cases e <;> first | (simp [rSto] at r; done) | rfl
theorem pgs_stos (h : XN c X) : ∀ {is : List Nat} {es : List Expr}, rStos c is es = true → PGs X es (gAll is)
  | [], [], _ => pgs_weak pgs_nil fun vs σ H Q ⟨l, q⟩ => ⟨List.eq_nil_of_length_eq_zero l, by
      have := List.eq_nil_of_length_eq_zero l
      subst this
      exact q⟩
  | i :: is, e :: es, r => by
    obtain ⟨r1, r2⟩ := Bool.and_eq_true_iff.mp (show (rSto c i e && rStos c is es) = true from r)
    refine pgs_weak (pgs_cons (pg_sto h r1) (pgs_stos h r2) (by rw [not_star r1]; rfl)) fun vs σ H Q ⟨l, q⟩ => ?_
    cases vs with
    | nil => cases l
    | cons v vs => exact ⟨v, vs, rfl, by simpa using l, q⟩
  | [], _ :: _, r => by cases r
  | _ :: _, [], r => by cases r
theorem star_eq {k : Nat} {e : Expr} {p : Pos} {env : PySem.Env} : (assignEach [.Starred e p] env).map (·.2) = [assign e env] := rfl
theorem pgs_star (h : XN c X) {k : Nat} : ∀ {is : List Nat} {es : List Expr}, rStar c k is es = true → PGs X es (gAll (is ++ [k]))
  | [], es, r => by
    cases es with
    | nil => cases r
    | cons e0 es' =>
      cases e0 <;> first | (cases es' <;> (simp [rStar] at r; done)) | skip
      rename_i e p
      cases es' with
      | cons _ _ => simp [rStar] at r
      | nil =>
        have r : rSto c k e = true := r
        have h1 : PGs X [e] (gCons (gName k) gNil) := pgs_cons (pg_sto h r) pgs_nil (by rw [not_star r]; rfl)
        refine ⟨fun pins s σ H vs us Q I rv q => ?_⟩
        have h2 := h1.run pins s σ H vs us Q I rv
        rw [not_star r] at h2
        refine h2 ?_
        obtain ⟨l, q⟩ := q
        cases vs with
        | nil => cases l
        | cons v vs =>
          cases vs with
          | nil => exact ⟨v, [], rfl, rfl, q⟩
          | cons _ _ => simp at l
  | i :: is, es, r => by
    cases es with
    | nil => cases r
    | cons e es =>
      have r' : rSto c i e = true ∧ rStar c k is es = true := Bool.and_eq_true_iff.mp (show (rSto c i e && rStar c k is es) = true from r)
      refine pgs_weak (pgs_cons (pg_sto h r'.1) (pgs_star h r'.2) (by rw [not_star r'.1]; rfl)) fun vs σ H Q ⟨l, q⟩ => ?_
      cases vs with
      | nil => cases l
      | cons v vs => exact ⟨v, vs, rfl, by simpa using l, q⟩
theorem star_shape {k : Nat} {env : PySem.Env} : ∀ {is : List Nat} {es : List Expr}, rStar c k is es = true → (assignEach es env).length = is.length + 1 ∧ (assignEach es env).findIdx? (·.1) = some is.length
  | [], es, r => by
    cases es with
    | nil => cases r
    | cons e0 es' =>
      cases e0 <;> first | (cases es' <;> (simp [rStar] at r; done)) | skip
      rename_i e p
      cases es' with
      | cons _ _ => simp [rStar] at r
      | nil => exact ⟨rfl, rfl⟩
  | i :: is, es, r => by
    cases es with
    | nil => cases r
    | cons e es =>
      have r' : rSto c i e = true ∧ rStar c k is es = true := Bool.and_eq_true_iff.mp (show (rSto c i e && rStar c k is es) = true from r)
      obtain ⟨h1, h2⟩ := star_shape (env := env) r'.2
      rw [not_star r'.1]
      refine ⟨by simpa using h1, ?_⟩
      rw [List.findIdx?_cons, h2]
      simp
theorem stos_shape {env : PySem.Env} : ∀ {is : List Nat} {es : List Expr}, rStos c is es = true → (assignEach es env).length = is.length ∧ (assignEach es env).findIdx? (·.1) = none
  | [], [], _ => ⟨rfl, rfl⟩
  | [], _ :: _, r => by cases r
  | _ :: _, [], r => by cases r
  | i :: is, e :: es, r => by
    have r' : rSto c i e = true ∧ rStos c is es = true := Bool.and_eq_true_iff.mp (show (rSto c i e && rStos c is es) = true from r)
    obtain ⟨h1, h2⟩ := stos_shape (env := env) r'.2
    rw [not_star r'.1]
    refine ⟨by simpa using h1, ?_⟩
    rw [List.findIdx?_cons, h2]
    simp
theorem nsOnly {h : Heap} {L : Addr} {m n : Str → Option Value} (x : h.Ns L m) (y : h.Ns L n) : m = n := by
  obtain ⟨o, es, ep, e, d, k, f⟩ := x
  obtain ⟨o2, es2, ep2, e2, d2, k2, f2⟩ := y
  cases e.symm.trans e2
  cases d.symm.trans d2
  exact funext fun z => (f z).symm.trans (f2 z)
theorem obj_there {P : Program} {w : World} {H : Hp} {h : Heap} {a : Addr} {o : HO} (x : ObjOk P w H h a o) : ∃ ob, h.get? a = some ob := by
  cases o with
  | lst xs => obtain ⟨_, _, _, _, e⟩ := x; exact ⟨_, e⟩
  | tup xs => obtain ⟨_, _, _, o, e, _⟩ := x; exact ⟨_, e⟩
  | dK kvs => obtain ⟨_, _, _, _, o, _, _, e, _⟩ := x; exact ⟨_, e⟩
  | dT kvs => obtain ⟨_, _, _, _, o, _, _, e, _⟩ := x; exact ⟨_, e⟩
  | set S n => obtain ⟨o, _, _, _, e, _⟩ := x; exact ⟨_, e⟩
  | ins C dx fs => obtain ⟨_, _, _, e, _⟩ := x; exact ⟨_, e⟩
  | own y => exact x
  | xd fs => obtain ⟨_, ⟨_, _, _, e, _⟩, _⟩ := x; exact ⟨_, e⟩
  | rng lo hi => obtain ⟨_, _, _, e⟩ := x; exact ⟨_, e⟩
  | frz ob u => exact ⟨_, x.1⟩
  | tbl ps => exact ⟨_, x⟩
  | met f y => exact ⟨_, x⟩
  | ext φ => exact x.2.1
theorem hok_there {P : Program} {w : World} {H : Hp} {h : Heap} (x : HOk P w H h) {a : Addr} {o : HO} (e : H a = some o) : ∃ ob, h.get? a = some ob := obj_there (x a o e)
/-- behind a rule of the library's frame that laid one list -/
theorem Inv.newsL {pins : List (Addr × Obj)} {σ : L2.St} {H : Hp} {s : Shared} {D : Addr} {h' : Heap} {m : Str → Option Value} {tk : Nat} {its : List Value} {ys : List V} (I : Inv X pins σ H s) (F : Fr X.base X.env.locals s.heap m) (F' : Fr X.base X.env.locals h' m)
    (N' : News X.base X.env.locals h' ((D, PySem.W.listOf its.toArray 0) :: allNews X.base s.heap X.env.locals)) (hD : ∀ p ∈ allNews X.base s.heap X.env.locals, p.1 < D) (rv : Vals ys its) (hz : ys.length ≤ sizeLine) :
    H D = none ∧ Inv X pins σ (upd H D (.lst ys)) { s with heap := h', toks := tk } := by
  obtain ⟨eD, nD, bD⟩ := N' _ List.mem_cons_self
  have hN : H D = none := by
    cases q : H D with
    | none => rfl
    | some u =>
      obtain ⟨o, ho⟩ : ∃ o, s.heap.get? D = some o := hok_there I.hok q
      have hm := hD _ (mem_allNews (g := X.base) (h := s.heap) nD bD ho)
      exact absurd hm (Nat.lt_irrefl _)
  have kp : ∀ b o, b ≠ X.env.locals → s.heap.get? b = some o → h'.get? b = some o := fun b o hb e => by
    cases q : X.base.get? b with
    | some u =>
      have := I.bk b u q
      rw [e] at this
      cases this
      exact F'.keep b _ q
    | none => exact (N' (b, o) (List.mem_cons_of_mem _ (mem_allNews hb q e))).1
  have nL : ∀ b u, H b = some u → b ≠ X.env.locals := fun b u e z => by
    rw [z, I.free] at e
    cases e
  refine ⟨hN, I.step (g' := s.gens) (d' := s.drawn) (ch := []) (fun _ z => nomatch z) (fun b o hb _ _ e _ => kp b o hb e) (fun b o hb _ _ e _ => ⟨o.slots, kp b o hb e⟩) (fun b o _ e n => ?_) (fun b o _ e => ?_) (fun b xs q => ?_) (fun b o u q => ?_) (fun b ps q => ?_) (fun m' hm => ?_) (fun b u e => ?_) I.bare⟩
  · rw [upd_ne fun z => ?_]
    · exact n
    · subst z
      by_cases hb : b = X.env.locals
      · exact nD hb
      · exact absurd (hD _ (mem_allNews (g := X.base) (h := s.heap) hb bD e)) (Nat.lt_irrefl _)
  · by_cases hb : b = X.env.locals
    · subst hb
      obtain ⟨o', _, _, e', _⟩ := F'.ns
      exact ⟨o', e'⟩
    · exact ⟨o, kp b o hb e⟩
  · rw [upd_ne (ne_of_none q hN)]
    exact q
  · rw [upd_ne (ne_of_none q hN)]
    exact q
  · exact ⟨#[], by rw [upd_ne (ne_of_none q hN), q]; simp⟩
  · rw [nsOnly hm F.ns]
    exact F'.ns
  · by_cases hb : b = D
    · subst hb
      rw [upd_same] at e
      cases e
      exact ⟨hz, its, 0, rv, eD⟩
    · rw [upd_ne hb] at e
      refine (I.hok b u e).stay (fun c v hc q => kp c v ?_ q) (fun c q => by rw [upd_ne (ne_of_none q hN)]; exact q) fun c xs q => by rw [upd_ne (ne_of_none q hN)]; exact q
      rcases hc with rfl | hc
      · exact nL _ _ e
      · exact nL _ _ hc
def gStar (K : PySem.W.Frag) (is : List Nat) (k : Nat) : TG := fun v σ H Q => ∃ a vs, v = .ref a ∧ SqT K H a vs ∧ is.length ≤ vs.length ∧ vs.length ≤ 10000 ∧
  ∀ p, H p = none → Q (setAll (is ++ [k]) (vs.take is.length ++ [.ref p]) σ) (upd H p (.lst (vs.drop is.length)))
theorem pg_stars (h : XN c X) {is : List Nat} {k : Nat} {es : List Expr} {kk : Nat} {pos : Pos} (r : rStar c k is es = true) : PG X (.Tuple es kk pos) (gStar X.K is k) := by
  refine ⟨fun pins s σ H v u Q I rv hw => ?_⟩
  obtain ⟨a, vs, e1, hq, l1, l2, hw⟩ := hw
  subst e1
  cases rv
  obtain ⟨its, rs, ht, hz⟩ := I.tuple hq
  have hl := rs.length
  obtain ⟨s1, s2⟩ := star_shape (env := X.env) r
  obtain ⟨m, F⟩ := I.fr
  have e2 : (its.drop is.length).take (its.toArray.size + 1 - (is.length + 1)) = its.drop is.length := by
    rw [List.size_toArray, List.take_of_length_le]
    rw [List.length_drop]
    omega
  have e3 : (its.drop is.length).drop (its.toArray.size + 1 - (is.length + 1)) = [] := by
    rw [List.size_toArray]
    refine List.drop_eq_nil_of_le ?_
    rw [List.length_drop]
    omega
  refine PySem.W.kun_assignT F news_all ht (I.ok.hd h.calm) s1 s2 (by omega) (by rw [List.size_toArray]; omega) (by rw [List.size_toArray]; omega) rfl rfl rfl fun D h' tk F' N' lt => ?_
  show wpAny _ _ (assignInOrder ((assignEach es X.env).map (·.2)) (its.take is.length ++ [.ref D] ++ (its.drop is.length).drop (its.toArray.size + 1 - (is.length + 1)))) _ _ _
  rw [e3, List.append_nil]
  have N2 : News X.base X.env.locals h' ((D, PySem.W.listOf (its.drop is.length).toArray 0) :: allNews X.base s.heap X.env.locals) := by
    rw [← e2]
    exact N'
  obtain ⟨hN, I2⟩ := Inv.newsL (tk := tk) I F F' N2 lt (rs.drop is.length) (by rw [List.length_drop]; omega)
  refine (pgs_star h r).run pins _ σ _ _ _ Q I2 ((rs.take is.length).append (.cons (a := V.ref D) rfl .nil)) ⟨?_, hw D hN⟩
  rw [List.length_append, List.length_append, List.length_take]
  simp
  omega
/-- the slots that a target stores into -/
def tgIx : Tg → List Nat
  | .name i => [i]
  | .tup is => is
  | .star is k => is ++ [k]
theorem wipe_get (σ : L2.St) : ∀ (vs : List Nat) (j : Nat), (wipe σ vs)[j]? = if j ∈ vs then (if j < σ.length then some none else none) else σ[j]?
  | [], j => by simp [wipe]
  | v :: vs, j => by
    show ((wipe σ vs).set v none)[j]? = _
    rw [List.getElem?_set, wipe_get σ vs j, wipe_length]
    by_cases h : v = j
    · subst h
      simp
    · rw [if_neg h]
      have h' : ¬ j = v := fun z => h z.symm
      simp [h']
theorem wipe_set (σ : L2.St) (vs : List Nat) {i : Nat} (x : Option V) (h : i ∈ vs) : wipe (σ.set i x) vs = wipe σ vs := by
  refine List.ext_getElem? fun j => ?_
  rw [wipe_get, wipe_get, List.length_set, List.getElem?_set]
  by_cases hj : j ∈ vs
  · rw [if_pos hj, if_pos hj]
  · rw [if_neg hj, if_neg hj, if_neg fun z => hj (by rw [← z]; exact h)]
theorem wipe_wipe (σ : L2.St) (vs : List Nat) : wipe (wipe σ vs) vs = wipe σ vs := by
  refine List.ext_getElem? fun j => ?_
  rw [wipe_get, wipe_get, wipe_length]
  split <;> rfl
theorem wipe_setAll : ∀ (is : List Nat) (us : List V) (σ : L2.St) (vs : List Nat), (∀ i ∈ is, i ∈ vs) → wipe (Mi.setAll is us σ) vs = wipe σ vs
  | [], _, _, _, _ => rfl
  | _ :: _, [], _, _, _ => rfl
  | i :: is, u :: us, σ, vs, h => by
    show wipe (Mi.setAll is us (σ.set i (some u))) vs = _
    rw [wipe_setAll is us _ vs fun j hj => h j (List.mem_cons_of_mem _ hj), wipe_set _ _ _ (h i List.mem_cons_self)]
/-- a target's reading, told by M0 -/
def tTg (F : Addr → Prop) (X : Cx) (gv : GV) (t : Tg) : TG := fun v σ H Q => ∃ ρ st d Q', RE F X.K gv H st ρ σ ∧ RS F X.K gv H st ∧ RD F X.K gv H st d v ∧ tgW t d ρ st Q' ∧
  ∀ ρ' st' σ' H', Q' ρ' st' → Ext st H st' H' → RS F X.K gv H' st' → RE F X.K gv H' st' ρ' σ' → (∀ vs, (∀ i ∈ tgIx t, i ∈ vs) → wipe σ' vs = wipe σ vs) → Q σ' H'
theorem PG.weak {e : Expr} {t t' : TG} (h : PG X e t) (w : ∀ v σ H Q, t' v σ H Q → t v σ H Q) : PG X e t' := ⟨fun pins s σ H v u Q I r q => h.run pins s σ H v u Q I r (w v σ H Q q)⟩
theorem RE.setAll {K : PySem.W.Frag} {H : Hp} {st : Store} : ∀ {is : List Nat} {xs : List D} {vs : List V} {ρ ρ' : Ev} {σ : L2.St}, stores is xs ρ = some ρ' → RDs F K gv H st xs vs → RE F K gv H st ρ σ → RE F K gv H st ρ' (setAll is vs σ)
  | [], _, _, _, _, _, e, .nil, h => by
    cases e
    exact h
  | i :: is, _, _, _, _, _, e, .cons a b, h => RE.setAll (is := is) e b (h.sv a)
  | [], _, _, _, _, _, e, .cons a b, h => by cases e
  | i :: is, _, _, _, _, _, e, .nil, h => by cases e
theorem stores_len : ∀ {is : List Nat} {xs : List D} {ρ ρ' : Ev}, stores is xs ρ = some ρ' → xs.length = is.length
  | [], [], _, _, _ => rfl
  | [], _ :: _, _, _, e => by cases e
  | _ :: _, [], _, _, e => by cases e
  | i :: is, x :: xs, _, _, e => congrArg Nat.succ (stores_len (is := is) (xs := xs) e)
theorem setAll_app : ∀ (is : List Nat) (k : Nat) (vs : List V) (u : V) (σ : L2.St), vs.length = is.length → Mi.setAll (is ++ [k]) (vs ++ [u]) σ = (Mi.setAll is vs σ).set k (some u)
  | [], k, [], u, σ, _ => rfl
  | [], _, _ :: _, _, _, e => by cases e
  | _ :: _, _, [], _, _, e => by cases e
  | i :: is, k, v :: vs, u, σ, e => setAll_app is k vs u _ (by simpa using e)
theorem pg_tg (h : XN c X) {t : Tg} {e : Expr} (r : rTg c t e = true) : PG X e (tTg F X gv t) := by
  cases t with
  | name i =>
    refine PG.weak (pg_sto h (show rSto c i e = true from r)) fun v σ H Q ⟨ρ, st, d, Q', re, rs, rd, w, p⟩ => ?_
    exact p _ _ _ _ w Ext.refl rs (re.sv rd) fun vs hv => wipe_set _ _ _ (hv i (by simp [tgIx]))
  | tup is =>
    cases e <;> first | (simp [rTg] at r; done) | skip
    rename_i es kk pos
    have r : rStos c is es = true := r
    obtain ⟨s1, s2⟩ := stos_shape (env := X.env) r
    refine PG.weak (pg_tup h.calm (pgs_stos h r) s1 s2) fun v σ H Q ⟨ρ, st, d, Q', re, rs, rd, w, p⟩ => ?_
    have vw := rd.view rs
    unfold tgW at w
    simp only at w
    generalize der st d = ed at w vw
    cases vw <;> first | exact w.elim | skip
    rename_i xs vs h1 h2 hh
    obtain ⟨ρ', e1, w⟩ := w
    have hl := stores_len e1
    have hl2 := h2.length
    exact ⟨_, vs, rfl, h1.seq, by omega, by omega, p _ _ _ _ w Ext.refl rs (RE.setAll e1 h2 re) fun ws hv => wipe_setAll is vs σ ws hv⟩
  | star is k =>
    cases e <;> first | (simp [rTg] at r; done) | skip
    rename_i es kk pos
    have r : rStar c k is es = true := r
    refine PG.weak (pg_stars h r) fun v σ H Q ⟨ρ, st, d, Q', re, rs, rd, w, p⟩ => ?_
    have vw := rd.view rs
    unfold tgW at w
    simp only at w
    generalize der st d = ed at w vw
    cases vw <;> first | exact w.elim | skip
    rename_i xs vs h1 h2 hh
    obtain ⟨⟨w1, w2⟩, ρ', e1, w⟩ := w
    have hl2 := h2.length
    refine ⟨_, vs, rfl, h1.seq, by omega, by omega, fun q hq => ?_⟩
    have x : Ext st H st (upd H q (.lst (vs.drop is.length))) := Ext.laid rs hq
    rw [setAll_app _ _ _ _ _ (by rw [List.length_take]; omega)]
    refine p _ _ _ _ w x (rs.laid hq) (RE.sv (.lst upd_same (rs.free hq) (rs.nf hq) ((h2.drop _).mono rs x.f)) ?_) fun ws hv => ?_
    case refine_2 =>
      rw [wipe_set _ _ _ (hv k (by simp [tgIx])), wipe_setAll is _ σ ws fun i hi => hv i (by simp [tgIx, hi])]
    exact (RE.setAll e1 (h2.take _) re).mono rs x.f
end
end Mi
/-! ## M5: what is walked; loops; comprehensions -/
namespace Mi
open PySem PySem.Spec PyProof.Rows L2
section
variable {F : Addr → Prop} {X : Cx} {c : RCx} {gv : GV}
/-- an iterator of the kit's yields these items, as long as g holds -/
structure JOk (F : Addr → Prop) (X : Cx) (gv : GV) (J : L2.It) (items : List D) (g : Store → Prop) (st0 : Store) (H0 : Hp) : Prop where
  go : ∀ (F' : Addr → Prop) i st H, (∀ a, F' a → F a ∨ H0 a = none) → ExtF F' st0 H0 st H → RS F' X.K gv H st → g st → i < items.length → J.go i H
  yld : ∀ (F' : Addr → Prop) i st H x H', (∀ a, F' a → F a ∨ H0 a = none) → ExtF F' st0 H0 st H → RS F' X.K gv H st → g st → i < items.length → J.yld i H x H' → Ext st H st H' ∧ RS F' X.K gv H' st ∧ ∃ d, items[i]? = some d ∧ RD F' X.K gv H' st d x
  stop : ∀ (F' : Addr → Prop) i st H, (∀ a, F' a → F a ∨ H0 a = none) → ExtF F' st0 H0 st H → RS F' X.K gv H st → g st → items.length ≤ i → J.stop i H
section
variable {st0 : Store} {H0 : Hp}
/-- a list: what stands at a, in each state -/
theorem jok_seq {a : Addr} {xs : List D} {g : Store → Prop}
    (hl : ∀ (F' : Addr → Prop) st H, (∀ a, F' a → F a ∨ H0 a = none) → ExtF F' st0 H0 st H → RS F' X.K gv H st → g st → ∃ us, SqL X.K H a us ∧ RDs F' X.K gv H st xs us) : JOk F X gv (Itl X.K a) xs g st0 H0 where
  go := fun F' i st H hF x r hg hi => by
    obtain ⟨us, h1, h2⟩ := hl F' st H hF x r hg
    obtain ⟨v, e, _⟩ := h2.get (i := i) (d := xs[i]) (List.getElem?_eq_getElem hi)
    exact ⟨us, v, h1, e⟩
  yld := fun F' i st H x H' hF ex r hg hi hy => by
    obtain ⟨us, h1, h2⟩ := hl F' st H hF ex r hg
    obtain ⟨rfl, hy⟩ := hy
    obtain ⟨v, e, rd⟩ := h2.get (i := i) (d := xs[i]) (List.getElem?_eq_getElem hi)
    have e2 := hy us h1
    rw [e] at e2
    cases e2
    exact ⟨Ext.refl, r, xs[i], List.getElem?_eq_getElem hi, rd⟩
  stop := fun F' i st H hF x r hg hi => by
    obtain ⟨us, h1, h2⟩ := hl F' st H hF x r hg
    exact ⟨us, h1, by rw [← h2.length]; exact hi⟩
theorem jok_tup {a : Addr} {xs : List D} {vs : List V} (r0 : RS F X.K gv H0 st0) (h : TuF F X.K H0 a vs) (hs : RDs F X.K gv H0 st0 xs vs) {g : Store → Prop} : JOk F X gv (Itt X.K a) xs g st0 H0 where
  go := fun F' i st H hF x r hg hi => by
    obtain ⟨v, e, _⟩ := hs.get (i := i) (d := xs[i]) (List.getElem?_eq_getElem hi)
    exact ⟨vs, v, ((h.hide hF).mono r0 x).seq, e⟩
  yld := fun F' i st H x H' hF ex r hg hi hy => by
    obtain ⟨rfl, hy⟩ := hy
    obtain ⟨v, e, rd⟩ := hs.get (i := i) (d := xs[i]) (List.getElem?_eq_getElem hi)
    have e2 := hy vs ((h.hide hF).mono r0 ex).seq
    rw [e] at e2
    cases e2
    exact ⟨Ext.refl, r, xs[i], List.getElem?_eq_getElem hi, (rd.hide hF).mono r0 ex⟩
  stop := fun F' i st H hF x r hg hi => ⟨vs, ((h.hide hF).mono r0 x).seq, by rw [← hs.length]; exact hi⟩
theorem jok_str {x : Str} {g : Store → Prop} : JOk F X gv (Its x) (x.cps.toList.map fun c => .str ⟨#[c]⟩) g st0 H0 where
  go := fun F' i st H hF _ r hg hi => by
    show i < x.cps.size
    simpa using hi
  yld := fun F' i st H y H' hF ex r hg hi hy => by
    obtain ⟨rfl, k, e, rfl⟩ := hy
    refine ⟨Ext.refl, r, .str ⟨#[k]⟩, ?_, .str _⟩
    rw [List.getElem?_map, Array.getElem?_toList, e]
    rfl
  stop := fun F' i st H hF _ r hg hi => by
    show x.cps.size ≤ i
    simpa using hi
theorem jok_rng {lo hi : Int} {n : Nat} (hn : n = (hi - lo).toNat) {g : Store → Prop} : JOk F X gv (Itr lo n) (rngD lo hi) g st0 H0 where
  go := fun F' i st H hF _ r hg hi => by
    show i < n
    subst hn
    simpa [rngD] using hi
  yld := fun F' i st H y H' hF ex r hg hi hy => by
    obtain ⟨rfl, rfl⟩ := hy
    refine ⟨Ext.refl, r, .int (lo + i), ?_, .int _⟩
    subst hn
    unfold rngD at hi ⊢
    rw [List.length_map, List.length_range] at hi
    rw [List.getElem?_map, List.getElem?_range hi]
    rfl
  stop := fun F' i st H hF _ r hg hi => by
    show n ≤ i
    subst hn
    simpa [rngD] using hi
/-- any value that is walked -/
def stays (x : D) (st : Store) : Store → Prop := fun st' => ∀ a, x = .loc a → st' a = st a
theorem jok_any {d : D} {v : V} {xs : List D} (r0 : RS F X.K gv H0 st0) (h : RD F X.K gv H0 st0 d v) (e : itemsOf (der st0 d) = some xs) :
    (∃ a, v = .ref a ∧ (∃ us, SqL X.K H0 a us) ∧ JOk F X gv (Itl X.K a) xs (stays d st0) st0 H0) ∨ (∃ a, v = .ref a ∧ (∃ us, SqT X.K H0 a us) ∧ JOk F X gv (Itt X.K a) xs (stays d st0) st0 H0) ∨
    (∃ z, v = .str z ∧ JOk F X gv (Its z) xs (stays d st0) st0 H0) := by
  cases h with
  | non => cases e
  | bl b => cases e
  | int i => cases e
  | glo h => cases e
  | tab _ _ _ => cases e
  | str z =>
    cases e
    exact .inr (.inr ⟨z, rfl, jok_str⟩)
  | tup h hs =>
    cases e
    exact .inr (.inl ⟨_, rfl, ⟨_, h.seq⟩, jok_tup r0 h hs⟩)
  | lst h n f hs =>
    cases e
    refine .inl ⟨_, rfl, ⟨_, SqL.of h⟩, jok_seq fun F' st H hF x r hg => ?_⟩
    exact ⟨_, SqL.of (x.keep _ _ (nf_hide hF h f) h n).1, (hs.hide hF).mono r0 x⟩
  | ro h hs =>
    cases e
    exact .inl ⟨_, rfl, ⟨_, h.seq⟩, jok_seq fun F' st H hF x r hg => ⟨_, ((h.hide hF).mono r0 x).seq, (hs.hide hF).mono r0 x⟩⟩
  | dct0 h n f => cases e
  | @loc a h =>
    cases q : st0 a with
    | none => exact absurd q h
    | some cl =>
      have q1 := (r0.at_ a cl q).1
      generalize hh : H0 a = o at q1
      cases q1 with
      | @lst ys vs hs =>
        have ed : der st0 (.loc a) = .lst ys := by simp only [der, q]
        rw [ed] at e
        cases e
        refine .inl ⟨_, rfl, ⟨vs, SqL.of hh⟩, jok_seq fun F' st H hF x r hg => ?_⟩
        have q2 : st a = some (.lst xs) := (hg a rfl).trans q
        obtain ⟨us, h1, h2⟩ := r.cell (X := X) q2
        exact ⟨us, SqL.of h1, h2⟩
      | dic0 =>
        have ed : der st0 (.loc a) = .dct [] [] := by simp only [der, q]
        rw [ed] at e
        cases e
end
/-- the kit's walk over any of these -/
def iAny (K : PySem.W.Frag) (tl : TE) : TI := fun σ H R => tl σ H fun x H1 => (∃ a, x = .ref a ∧ (∃ xs, SqL K H1 a xs) ∧ R (Itl K a) H1) ∨ (∃ a, x = .ref a ∧ (∃ xs, SqT K H1 a xs) ∧ R (Itt K a) H1) ∨ (∃ z, x = .str z ∧ R (Its z) H1)
theorem pi_any {tg e : Expr} {tl : TE} (hl : PE X e tl) : PI X tg e (iAny X.K tl) := by
  refine ⟨fun pins s σ H R I h => ?_⟩
  refine thn (hl.run pins s σ H _ I h) fun v s1 ⟨x, H1, I1, r1, q1⟩ => ?_
  have fp : ∀ b, b ∈ [s1.heap.objs.size] → FpOk X pins H1 b := fun b hb => by
    have e : b = s1.heap.objs.size := by simpa using hb
    subst e
    exact I1.fpOk (Nat.le_refl _) (I1.hok.fresh (Nat.le_refl _))
  rcases q1 with ⟨a, e, ⟨xs, hq⟩, q⟩ | ⟨a, e, ⟨xs, hq⟩, q⟩ | ⟨z, e, q⟩
  · subst e
    cases r1
    obtain ⟨its, rv, p, hz⟩ := I1.list hq
    exact wpAny_pyIter_list p.isList ⟨s1.heap.objs.size, [s1.heap.objs.size], _, _, H1, rfl, I1.kept (t' := s1.toks) fun b o e => Heap.get?_push_of_some _ e, turn_list a _, ⟨_, Heap.get?_push_size _ rfl, rfl, rfl⟩, fp, q⟩
  · subst e
    cases r1
    obtain ⟨its, rv, p, hz⟩ := I1.tuple hq
    exact wpAny_pyIter_tuple (show s1.heap.IsTuple a its.toArray from p) ⟨s1.heap.objs.size, [s1.heap.objs.size], _, _, H1, rfl, I1.kept (t' := s1.toks) fun b o e => Heap.get?_push_of_some _ e, turn_tuple a _, ⟨_, Heap.get?_push_size _ rfl, rfl, rfl⟩, fp, q⟩
  · subst e
    obtain ⟨t, rfl⟩ := r1
    cases ha : z.cps.all (· < 128)
    · exact wpAny_pyIter_wide ha (pi_one (tk := s1.toks) I1 _ (turn_str _ z t "str_iterator" (.inr rfl)) ⟨_, Heap.get?_push_size _ rfl, rfl, rfl⟩ q)
    · exact wpAny_pyIter_ascii ha (pi_one (tk := s1.toks) I1 _ (turn_str _ z t "str_ascii_iterator" (.inl rfl)) ⟨_, Heap.get?_push_size _ rfl, rfl, rfl⟩ q)
/-! ### a list that is being made is hidden -/
mutual
theorem RD.weak {F F' : Addr → Prop} {K : PySem.W.Frag} {H : Hp} {st st' : Store} (hF : ∀ a, F a → F' a) (hs : ∀ a, ¬ F' a → st a = none → st' a = none) (hc : ∀ a, st a ≠ none → st' a ≠ none) : ∀ {d : D} {v : V}, RD F' K gv H st d v → RD F K gv H st' d v
  | _, _, .non => .non
  | _, _, .bl b => .bl b
  | _, _, .int i => .int i
  | _, _, .str z => .str z
  | _, _, .tup h hs' => .tup (by
      rcases h with h | ⟨h, f⟩
      · exact .inl h
      · exact .inr ⟨h, fun z => f (hF _ z)⟩) (RDs.weak hF hs hc hs')
  | _, _, .lst h n f hs' => .lst h (hs _ f n) (fun z => f (hF _ z)) (RDs.weak hF hs hc hs')
  | _, _, .ro h hs' => .ro (by
      rcases h with h | ⟨h, f⟩
      · exact .inl h
      · exact .inr ⟨h, fun z => f (hF _ z)⟩) (RDs.weak hF hs hc hs')
  | _, _, .dct0 h n f => .dct0 h (hs _ f n) fun z => f (hF _ z)
  | _, _, .loc h => .loc (hc _ h)
  | _, _, .tab h q hs' => .tab h q (RDs.weak hF hs hc hs')
  | _, _, .glo h => .glo h
theorem RDs.weak {F F' : Addr → Prop} {K : PySem.W.Frag} {H : Hp} {st st' : Store} (hF : ∀ a, F a → F' a) (hs : ∀ a, ¬ F' a → st a = none → st' a = none) (hc : ∀ a, st a ≠ none → st' a ≠ none) : ∀ {ds : List D} {vs : List V}, RDs F' K gv H st ds vs → RDs F K gv H st' ds vs
  | _, _, .nil => .nil
  | _, _, .cons h hs' => .cons (RD.weak hF hs hc h) (RDs.weak hF hs hc hs')
end
theorem RC.weak {F F' : Addr → Prop} {K : PySem.W.Frag} {H : Hp} {st st' : Store} (hF : ∀ a, F a → F' a) (hs : ∀ a, ¬ F' a → st a = none → st' a = none) (hc : ∀ a, st a ≠ none → st' a ≠ none) {cl : Cell} {o : Option HO} (h : RC F' K gv H st cl o) : RC F K gv H st' cl o := by
  cases h with
  | lst h => exact .lst (h.weak hF hs hc)
  | dic0 => exact .dic0
theorem RC.hide {F F' : Addr → Prop} {K : PySem.W.Frag} {H : Hp} {st : Store} (hF : ∀ a, F' a → F a ∨ H a = none) {cl : Cell} {o : Option HO} (h : RC F K gv H st cl o) : RC F' K gv H st cl o := by
  cases h with
  | lst h => exact .lst (h.hide hF)
  | dic0 => exact .dic0
section
variable {K : PySem.W.Frag} {H : Hp} {st : Store} {d : Addr}
abbrev plus (F : Addr → Prop) (d : Addr) : Addr → Prop := fun a => F a ∨ a = d
theorem plus_new (hd : H d = none) : ∀ a, plus F d a → F a ∨ H a = none := fun a h => h.imp id fun z => by rw [z]; exact hd
/-- a new list is laid, and hidden -/
theorem RS.begin (r : RS F K gv H st) (hd : H d = none) {o : HO} : RS (plus F d) K gv (upd H d o) st where
  at_ := fun a cl e => by
    have ne : a ≠ d := fun z => by
      subst z
      rw [r.free hd] at e
      cases e
    rw [upd_ne ne]
    refine ⟨((r.at_ a cl e).1.hide (plus_new hd)).mono r (Ext.laid r hd).f, fun z => ?_⟩
    rcases z with z | z
    · exact (r.at_ a cl e).2 z
    · exact ne z
  hid := fun a z => by
    rcases z with z | z
    · have ne : a ≠ d := fun q => (r.hid a z).1 (q ▸ hd)
      rw [upd_ne ne]
      exact r.hid a z
    · subst z
      exact ⟨by rw [upd_same]; exact (fun q => nomatch q), r.free hd⟩
/-- it grows -/
theorem extF_grow {o : HO} : ExtF (plus F d) st H st (upd H d o) :=
  ⟨fun a u f h n => ⟨by rw [upd_ne fun z => f (.inr z)]; exact h, n⟩, fun _ h => h⟩
theorem RS.grow (r : RS (plus F d) K gv H st) {o : HO} : RS (plus F d) K gv (upd H d o) st where
  at_ := fun a cl e => by
    have q := r.at_ a cl e
    have ne : a ≠ d := fun z => q.2 (.inr z)
    rw [upd_ne ne]
    exact ⟨q.1.mono r extF_grow, q.2⟩
  hid := fun a z => by
    by_cases ne : a = d
    · subst ne
      exact ⟨by rw [upd_same]; exact (fun q => nomatch q), (r.hid a z).2⟩
    · rw [upd_ne ne]
      exact r.hid a z
/-- it is shown, as it is -/
theorem RS.show_ (r : RS (plus F d) K gv H st) : RS F K gv H st where
  at_ := fun a cl e => ⟨(r.at_ a cl e).1.weak (fun _ => .inl) (fun _ _ h => h) fun _ h => h, fun z => (r.at_ a cl e).2 (.inl z)⟩
  hid := fun a z => r.hid a (.inl z)
/-- it is shown, as a cell -/
theorem RS.cellN (r : RS (plus F d) K gv H st) (hf : ¬ F d) {acc : List D} {vs : List V} (hd : H d = some (.lst vs)) (ha : RDs (plus F d) K gv H st acc vs) : RS F K gv H (st.up d (.lst acc)) := by
  have hs : ∀ a, ¬ plus F d a → st a = none → (st.up d (.lst acc)) a = none := fun a f h => by
    rw [up_ne fun z => f (.inr z)]
    exact h
  have hc : ∀ a, st a ≠ none → (st.up d (.lst acc)) a ≠ none := fun a h => by
    unfold Store.up
    split
    · exact fun z => nomatch z
    · exact h
  refine ⟨fun a cl e => ?_, fun a z => ?_⟩
  · by_cases ne : a = d
    · subst ne
      rw [up_same] at e
      cases e
      rw [hd]
      exact ⟨.lst (ha.weak (fun _ => .inl) hs hc), hf⟩
    · rw [up_ne ne] at e
      exact ⟨(r.at_ a cl e).1.weak (fun _ => .inl) hs hc, fun z => (r.at_ a cl e).2 (.inl z)⟩
  · have ne : a ≠ d := fun q => hf (q ▸ z)
    rw [up_ne ne]
    exact r.hid a (.inl z)
end
end
end Mi
/-! ## M6: calls; the syntax against the text; each expression keeps M0's word -/
namespace Mi
open PySem PySem.Spec PyProof.Rows L2

abbrev noX : XK := fun _ _ => False
/-- what a def promises: M0's call -/
def spN (G : Pg) (gv : GV) (K : PySem.W.Frag) (n : Nat) (f : Str) : Sp := fun vs H Q _ => ∃ F st ds Q', RS F K gv H st ∧ RDs F K gv H st ds vs ∧ callN G n f ds st noX Q' ∧
  ∀ d st' v H', Q' d st' → Ext st H st' H' → RS F K gv H' st' → RD F K gv H' st' d v → Q v H'
/-- a def keeps a promise where no repr runs around it -/
structure FnG (P : Program) (w : World) (K : PySem.W.Frag) (mg : Str → Option Value) (base : Heap) (k : Nat) (f : Addr) (fd : FuncData) (ps : List Str) (sp : Sp) : Prop where
  len : ∀ vs H Q E, sp vs H Q E → vs.length = ps.length
  run : ∀ (A : Around) (outer : List PySem.Env) (s : Shared) (H : Hp) (args : Args) (us : List Value) (vs : List V) (Q : VK) (E : L2.XK), A.guards = some [] → Room k A → Env0 P w K mg base A outer s H → BindsTo s fd args (ps.zip us) → Vals vs us → sp vs H Q E →
    codeAny (model P w) A (.call (.ref f) args) (CR CX0 outer P w H s Q E) s
section
variable {X : Cx} {k n : Nat} {f : Addr} {fd : FuncData} {ps ks : List Str} {sp : Sp} {x : Str} {p pos : Pos} {e : Expr} {es : List Expr} {kws : List Keyword} {t tk : TA} {g : List Value → List Value → List Value} {gV : List V → List V → List V}
theorem runG {pins : List (Addr × Obj)} {σ : L2.St} {H : Hp} {s : Shared} {Q : VK} {us us' : List Value} {vs : List V} {kw : List (Str × Value)} (Fn : FnG X.prog X.w X.K X.mg X.base k f fd ps sp) (hg : X.A.guards = some []) (hr : Room k X.A) (hb : BindsTo s fd ⟨us, kw⟩ (ps.zip us'))
    (I : Inv X pins σ H s) (r : Vals vs us') (h : sp vs H Q E0) : wpAny (model X.prog X.w) X.A (call (.ref f) us kw) (EP X pins σ Q) X.xe s := by
  refine wpAny_call (codeAny_mono (Fn.run X.A X.stack s H ⟨us, kw⟩ us' vs Q E0 hg hr I.env0 hb r h) fun r s' hq => ?_)
  cases r with
  | error e => exact False.elim hq
  | ok fl =>
    cases fl with
    | ret u => exact I.after hq
    | next => exact False.elim hq
    | brk => exact False.elim hq
    | cont => exact False.elim hq
theorem pe_callG (Fn : FnG X.prog X.w X.K X.mg X.base k f fd ps sp) (gd : X.A.guards = some []) (hr : Room k X.A) (hg : Gl X x) (hm : X.mg x = some (.ref f)) (hk : PySem.W.keepIn X.K (.ref f) = true) (hb : Binds X.K fd ps [])
    (ha : PA X (e :: es) t) (hdb : (x == ("__debug__" : Str)) = false) (he : starEach (e :: es) X.env = (false, eval e X.env) :: starEach es X.env) (hpl : (backTo pos (starEach es X.env)).any (·.1) = false) :
    PE X (.Call (.Name x p) (e :: es) [] pos) (tCall sp [] E0 t) := by
  refine ⟨fun pins s σ H Q I h => ?_⟩
  refine wpAny_Call_Name_kw (ld_glob I hg hm ?_ hdb)
  refine PySem.W.callWith_K (h₀ := X.base) I.ok.mod.kin hk (thn (ha.run pos pins s σ H _ I h) fun us s1 ⟨vs, H1, I1, r, q⟩ => ⟨I1.kIn, ?_⟩) he hpl
  have q : sp (vs ++ []) H1 Q E0 := q
  rw [List.append_nil] at q
  have hl := (r.length).symm.trans (Fn.len _ _ _ _ q)
  have b := hb s1 us I1.kIn (by rw [List.append_nil]; exact hl)
  rw [List.append_nil] at b
  exact runG Fn gd hr b I1 r q
theorem pe_callG0 (Fn : FnG X.prog X.w X.K X.mg X.base k f fd ps sp) (gd : X.A.guards = some []) (hr : Room k X.A) (hg : Gl X x) (hm : X.mg x = some (.ref f)) (hk : PySem.W.keepIn X.K (.ref f) = true) (hb : Binds X.K fd ps [])
    (hdb : (x == ("__debug__" : Str)) = false) : PE X (.Call (.Name x p) [] [] pos) (tCall sp [] E0 tNil) := by
  refine ⟨fun pins s σ H Q I h => ?_⟩
  refine wpAny_Call_Name_kw (ld_glob I hg hm ?_ hdb)
  have h : sp [] H Q E0 := h
  have hl := Fn.len _ _ _ _ h
  have b := hb s [] I.kIn hl
  exact PySem.W.callWith_K0 I.kIn hk (runG (us := []) Fn gd hr b I .nil h)
theorem pe_callGN (Fn : FnG X.prog X.w X.K X.mg X.base k f fd ps sp) (gd : X.A.guards = some []) (hr : Room k X.A) (hg : Gl X x) (hm : X.mg x = some (.ref f)) (hk : PySem.W.keepIn X.K (.ref f) = true) (hb : KBn X.K fd ps n ks g gV)
    (ha : PA X (e :: es) t) (hkw : PK X kws tk) (hall : (backToKw pos (keywordEach kws X.env)).all (·.1.isSome) = true) (hks : (backToKw pos (keywordEach kws X.env)).filterMap (·.1) = ks)
    (hdb : (x == ("__debug__" : Str)) = false) (he : starEach (e :: es) X.env = (false, eval e X.env) :: starEach es X.env)
    (hpl : ((backTo pos (starEach (e :: es) X.env)).any (·.1) || (backToKw pos (keywordEach kws X.env)).any (·.1.isNone)) = false) :
    PE X (.Call (.Name x p) (e :: es) kws pos) (tCallN n ks.length sp gV E0 t tk) := by
  have fin : ∀ {pins : List (Addr × Obj)} {s : Shared} {σ : L2.St} {H : Hp} {Q : VK} {us ws : List Value} {vs zs : List V}, Inv X pins σ H s → Vals vs us → Vals zs ws → vs.length = n → zs.length = ks.length → sp (gV vs zs) H Q E0 → wpAny (model X.prog X.w) X.A (call (.ref f) us (ks.zip ws)) (EP X pins σ Q) X.xe s :=
    fun {pins s σ H Q us ws vs zs} I r rz l1 l2 q => runG (us' := g us ws) (vs := gV vs zs) Fn gd hr (hb.to s us ws I.kIn (r.length.symm.trans l1) (rz.length.symm.trans l2)) I (hb.rel r rz) q
  refine ⟨fun pins s σ H Q I h => ?_⟩
  refine wpAny_Call_Name_kw (ld_glob I hg hm ?_ hdb)
  refine PySem.W.callWith_KW (h₀ := X.base) I.ok.mod.kin hk hall (thn (ha.run pos pins s σ H _ I h) fun us s1 ⟨vs, H1, I1, r, q⟩ => ?_) hpl he
  refine thn (hkw.run pos pins s1 σ H1 _ I1 q) fun ws s2 ⟨zs, H2, I2, rz, l1, l2, q2⟩ => ⟨I2.kIn, ?_⟩
  rw [hks]
  exact fin I2 r rz l1 l2 q2
theorem pe_callGN0 (Fn : FnG X.prog X.w X.K X.mg X.base k f fd ps sp) (gd : X.A.guards = some []) (hr : Room k X.A) (hg : Gl X x) (hm : X.mg x = some (.ref f)) (hk : PySem.W.keepIn X.K (.ref f) = true) (hb : KBn X.K fd ps n ks g gV)
    (hkw : PK X kws tk) (hall : (backToKw pos (keywordEach kws X.env)).all (·.1.isSome) = true) (hks : (backToKw pos (keywordEach kws X.env)).filterMap (·.1) = ks)
    (hdb : (x == ("__debug__" : Str)) = false)
    (hpl : ((backTo pos (starEach [] X.env)).any (·.1) || (backToKw pos (keywordEach kws X.env)).any (·.1.isNone)) = false) :
    PE X (.Call (.Name x p) [] kws pos) (tCallN n ks.length sp gV E0 tNil tk) := by
  refine ⟨fun pins s σ H Q I h => ?_⟩
  refine wpAny_Call_Name_kw (ld_glob I hg hm ?_ hdb)
  have h : tk σ H fun zs H2 => (([] : List V).length = n ∧ zs.length = ks.length ∧ sp (gV [] zs) H2 Q E0) := h
  refine PySem.W.callWith_KW0 (h₀ := X.base) I.ok.mod.kin hk hall (thn (hkw.run pos pins s σ H _ I h) fun ws s2 ⟨zs, H2, I2, rz, l1, l2, q2⟩ => ⟨I2.kIn, ?_⟩) hpl
  rw [hks]
  exact runG (us := []) (us' := g [] ws) (vs := gV [] zs) Fn gd hr (hb.to s2 [] ws I2.kIn l1 (rz.length.symm.trans l2)) I2 (hb.rel .nil rz) q2
/-- how a def's walk gives its promise -/
theorem fnG_of {P : Program} {w : World} {K : PySem.W.Frag} {mg : Str → Option Value} {base : Heap} {k : Nat} {f : Addr} {x qual : Str} {params : Arguments} {body : List Stmt} {scope : Scope} {dvs : List V} {kws : List (Str × V)} {fd : FuncData} {N ps : List Str} {sp : Sp}
    (Fd : FunD K x qual params body scope dvs kws f fd) (S : FnScope N ps scope) (len : ∀ vs H Q E, sp vs H Q E → vs.length = ps.length)
    (hbody : ∀ (cdv : Value) (A : Around) (outer : List PySem.Env) (s : Shared) (H : Hp) (vs : List V) (Q : VK) (E : L2.XK), A.guards = some [] → Room k (A.deeper (envOfC qual scope s.heap.objs.size f cdv)) → sp vs H Q E →
      ∃ t, PSs (cxOf CX0 P w K mg base N qual scope f cdv A outer s H E) body t ∧ t { nx := fun _ H' => Q .non H', rt := Q } (start N vs) H) : FnG P w K mg base (k + 1) f fd ps sp := by
  obtain ⟨oc, od, dV, kV, doc, pm, an, cdv, ct, osl, rfl, lk, hcd, _, _⟩ := Fd.ex
  refine ⟨len, fun A outer s H args us vs Q E hgd hr e0 hb r hsp => ?_⟩
  have stay : ∀ b o, base.get? b = some o → s.heap.get? b = some o := fun b o e => (e0.bs b o e).1
  have lim : s.heap.NoLimit := e0.mod.nolimit.keeps stay
  have KX : K.In s.heap := e0.mod.kin.keeps stay
  have bound : ∀ y ∈ ps.zip us, scope.names.lookup y.1 = some .local ∨ (scope.names.lookup y.1 = some .cell ∧ ((cellsFrom (s.heap.objs.size + 1) scope.names []).lookup y.1).isSome = true) := fun y hy =>
    (S.par y.1 (List.of_mem_zip (a := y.1) (b := y.2) hy).1).imp id fun q => ⟨q, PySem.W.cellsFrom_some _ _ _ (.inl q)⟩
  refine codeAny_call_function hr.depth (KX _ _ lk) rfl S.co S.gen rfl (PySem.W.codeRec_of KX hcd) (hb _ _ _ _ (wpAny_newFunctionEnv_cells S.kind bound fun env he s1 x => ?_))
  subst he
  obtain ⟨t, ht, hq⟩ := hbody cdv A outer s H vs Q E hgd (hr.deeper _) hsp
  have J := inv_start (CX := CX0) (P := P) (w := w) (K := K) (mg := mg) (base := base) (qual := qual) (f := f) (cd := cdv) (E := E) S hr.hd e0 (len _ _ _ _ hsp) r x
  refine ⟨lim.keeps x.toInCall.keep, codeAny_func (wpAny_mono (ht.run [] s1 (start N vs) H _ J hq) (fun fl s' hs => ?_) fun e s' hs => hs)⟩
  cases fl with
  | ret u =>
    obtain ⟨v, σ', H', J', rv, q⟩ := hs
    exact ⟨v, H', J'.os, J'.bare, J'.base, J'.hok, rv, q⟩
  | next =>
    obtain ⟨σ', H', J', q⟩ := hs
    exact ⟨.non, H', J'.os, J'.bare, J'.base, J'.hok, rfl, q⟩
  | brk => exact hs.choose_spec.choose_spec.2.elim
  | cont => exact hs.choose_spec.choose_spec.2.elim
end

/-! ### the syntax against the text -/
def opE (o : Op2) (p : Operator) : Bool := decide (opB o = p)
def cmE (o : Cm) (p : CmpOp) : Bool := decide (cmB o = p)
def biN : Bi → Str
  | .len => "len"
  | .abs => "abs"
  | .int => "int"
  | .all => "all"
  | .any => "any"
  | .sum => "sum"
  | .min1 | .min2 => "min"
  | .max1 | .max2 => "max"
  | .sorted | .sortedL => "sorted"
  | .list | .listL => "list"
  | .tuple => "tuple"
  | .dict | .dictL => "dict"
  | .repr => "repr"
  | .str => "str"
  | .range1 | .range2 => "range"
def tyN : Ty → String
  | .int => "int"
  | .bool => "bool"
  | .str => "str"
  | .tuple => "tuple"
  | .list => "list"
  | .dict => "dict"
def mtN : Mt → Str
  | .append => "append"
  | .pop => "pop"
  | .popAt => "pop"
  | .remove => "remove"
  | .index => "index"
  | .count => "count"
  | .get1 => "get"
  | .get2 => "get"
  | .extend => "extend"
  | .insert => "insert"
/-- how many arguments -/
def mtA : Mt → Nat → Bool
  | .append, k => k == 1
  | .pop, k => k == 0
  | .popAt, k => k == 1
  | _, _ => false
/-- the block of a comprehension -/
def RCx.blk (c : RCx) (scope : Scope) : RCx := ⟨c.N, relS scope c.sc, fun x => match scope.names.lookup x with
  | some .local => true
  | some .cell => true
  | _ => false, c.fs, c.kw⟩
def ownOf (c : RCx) (own : List Nat) : List (Str × Nat) := own.map fun i => (c.N.getD i "", i)
def call0 : Expr → Bool
  | .Call _ [] _ _ => true
  | _ => false
def isIf : Expr → Bool
  | .IfExp .. => true
  | _ => false
mutual
def rE (c : RCx) : E → Expr → Bool
  | .v i, .Name x _ => rName c i x
  | .int i, .Constant (.int j) _ _ => decide (i = j)
  | .str x, .Constant (.str y) _ _ => decide (x = y)
  | .bl b, .Constant (.bool d) _ _ => b == d
  | .non, .Constant .none _ _ => true
  | .glb x, .Name y _ => decide (x = y) && glB c y
  | .bin o a b, .BinOp a' p b' _ => opE o p && rE c a a' && rE c b b'
  | .neg a, .UnaryOp .USub a' _ => rE c a a'
  | .cmp o a b, .Compare a' [p] [b'] _ => cmE o p && rE c a a' && rE c b b' && !(behindInMarks p b')
  | .chain o o' a b d, .Compare a' [p, p'] [b', d'] _ => cmE o p && cmE o' p' && rE c a a' && rE c b b' && rE c d d' && !(lastMarks [p, p'] [b', d'])
  | .and_ es, .BoolOp .And es' _ => rEs c es es' && !(es'.any isIf)
  | .or_ es, .BoolOp .Or es' _ => rEs c es es' && !(es'.any isIf)
  | .not_ a, .UnaryOp .Not a' _ => rE c a a' && !(isIf a')
  | .ife t a b, .IfExp t' a' b' _ => rE c t t' && !(isIf t') && rE c a a' && rE c b b'
  | .ix a i, .Subscript a' i' _ => rE c a a' && rE c i i'
  | .sl a lo hi, .Subscript a' (.Slice lo' hi' none _) _ => rE c a a' && rEo c lo lo' && rEo c hi hi'
  | .tup es, .Tuple es' _ _ => rEs c es es' && decide (es'.length ≤ 1000)
  | .lst _ es, .List es' _ => rEs c es es' && decide (es'.length ≤ 1000)
  | .dic _ .nil .nil, .Dict [] [] _ => true
  | .call f es, .Call (.Name g _) es' [] _ => decide (f = g) && glB c g && rEs c es es' && c.fs.contains f
  | .callk f es n ks kes, .Call (.Name g _) es' kws _ => decide (f = g) && glB c g && rEs c es es' && rKs c ks kes kws && c.fs.contains f && !((c.kw f n ks).isEmpty)
  | .bi b es, .Call (.Name g _) es' [] _ => decide (biN b = g) && glB c g && rEs c es es' && !(es'.isEmpty)
  | .mth m o es, .Call (.Attribute o' g ap) es' [] cp => decide (mtN m = g) && rE c o o' && rEs c es es' && (ap.endLine == cp.line) && !(call0 o') && mtA m es'.length
  | .isi a t, .Call (.Name g _) [a', .Name T _] [] _ => decide (g = ("isinstance" : Str)) && glB c g && glB c T && decide (T = Str.ofString (tyN t)) && rE c a a'
  | .lc _ elt tg it t own, .ListComp elt' [⟨tg', it', ifs', asy⟩] scope _ => decide (asy = 0) && rIt c it it' && blkC c.N c.sc scope (ownOf c own) && rTg (c.blk scope) tg tg' && rCs (c.blk scope) t ifs' && rE (c.blk scope) elt elt' && (tgIx tg).all (own.contains ·)
  | _, _ => false
def rEs (c : RCx) : Es → List Expr → Bool
  | .nil, [] => true
  | .cons e es, e' :: es' => rE c e e' && rEs c es es'
  | _, _ => false
def rEo (c : RCx) : Eo → Option Expr → Bool
  | .none, none => true
  | .some e, some e' => rE c e e'
  | _, _ => false
def rCs (c : RCx) : Eo → List Expr → Bool
  | .none, [] => true
  | .some e, [e'] => rE c e e' && !(isIf e')
  | _, _ => false
def rKs (c : RCx) : List Str → Es → List Keyword → Bool
  | [], .nil, [] => true
  | k :: ks, .cons e es, ⟨some k', e', _⟩ :: kws => decide (k = k') && rE c e e' && rKs c ks es kws
  | _, _, _ => false
def rIt (c : RCx) : It → Expr → Bool
  | .e a, e => rE c a e
  | .rng1 a, .Call (.Name g _) [a'] [] _ => decide (g = ("range" : Str)) && glB c g && rE c a a'
  | .rng2 a b, .Call (.Name g _) [a', b'] [] _ => decide (g = ("range" : Str)) && glB c g && rE c a a' && rE c b b'
  | _, _ => false
end
end Mi
/-! ## M7: each expression keeps M0's word -/
namespace Mi
open PySem PySem.Spec PyProof.Rows L2

def bltNames : List Str := ["len", "abs", "int", "all", "any", "sum", "min", "max", "sorted", "list", "tuple", "dict", "repr", "str", "range", "isinstance", "bool", "enumerate", "zip"]
/-- what the module gives: the defs, n deep; constants; built-ins -/
structure MG (G : Pg) (gv : GV) (n : Nat) (X : Cx) : Prop where
  call : ∀ f d, G.defs.lookup f = some d → ∃ a fd ps, X.mg f = some (.ref a) ∧ PySem.W.keepIn X.K (.ref a) = true ∧ L2.Binds X.K fd ps [] ∧ FnG X.prog X.w X.K X.mg X.base n a fd ps (spN G gv X.K n f) ∧
    ∀ m ks, G.kw f m ks ≠ [] → KBn X.K fd ps m ks (fun us ws => pickL (G.kw f m ks) (us ++ ws)) (fun us ws => pickL (G.kw f m ks) (us ++ ws))
  glb : ∀ x d, G.glb x = some d → ∃ u v, X.mg x = some u ∧ RelV v u ∧ ∀ F H st, RS F X.K gv H st → RD F X.K gv H st d v
  blt : ∀ x ∈ bltNames, X.mg x = none
structure XG (G : Pg) (gv : GV) (n : Nat) (c : RCx) (X : Cx) : Prop where
  xn : XN c X
  mg : MG G gv n X
  room : Room n X.A
  fs : ∀ f, c.fs.contains f = true → ∃ d, G.defs.lookup f = some d
  gd : X.A.guards = some []
  gw : gv.w = X.w
  kw : G.kw = c.kw
section
variable {G : Pg} {gv : GV} {n : Nat} {c : RCx} {X : Cx}
theorem XG.un (h : XG G gv n c X) : X.A.units + 128 < cLine := by
  have := h.room.un
  omega
def tE (G : Pg) (gv : GV) (n : Nat) (X : Cx) (m : E) : TE := fun σ H Q => ∃ F ρ st Q', RE F X.K gv H st ρ σ ∧ RS F X.K gv H st ∧ wE (ctxN G n) m ρ st noX Q' ∧ Pst F X gv st H Q' Q
/-- .. as a test -/
def tT (G : Pg) (gv : GV) (n : Nat) (X : Cx) (m : E) : TT := fun σ H Q => ∃ F ρ st Q', RE F X.K gv H st ρ σ ∧ RS F X.K gv H st ∧ wE (ctxN G n) m ρ st noX Q' ∧
  ∀ d st' H', Q' d st' → Ext st H st' H' → RS F X.K gv H' st' → ∃ b, d = .bl b ∧ Q b H'
def tL (G : Pg) (gv : GV) (n : Nat) (X : Cx) (ms : Es) : TA := fun σ H Q => ∃ F ρ st Q', RE F X.K gv H st ρ σ ∧ RS F X.K gv H st ∧ wEs (ctxN G n) ms ρ st noX Q' ∧
  ∀ ds st' vs H', Q' ds st' → Ext st H st' H' → RS F X.K gv H' st' → RDs F X.K gv H' st' ds vs → vs.length = ms.len → Q vs H'
def tAnd_ (G : Pg) (gv : GV) (n : Nat) (X : Cx) (ms : Es) : TE := fun σ H Q => ∃ F ρ st Q', RE F X.K gv H st ρ σ ∧ RS F X.K gv H st ∧ wAnd (ctxN G n) ms ρ st noX Q' ∧ Pst F X gv st H Q' Q
def tOr_ (G : Pg) (gv : GV) (n : Nat) (X : Cx) (ms : Es) : TE := fun σ H Q => ∃ F ρ st Q', RE F X.K gv H st ρ σ ∧ RS F X.K gv H st ∧ wOr (ctxN G n) ms ρ st noX Q' ∧ Pst F X gv st H Q' Q
def tAndT (G : Pg) (gv : GV) (n : Nat) (X : Cx) (ms : Es) : TT := fun σ H Q => ∃ F ρ st Q', RE F X.K gv H st ρ σ ∧ RS F X.K gv H st ∧ wAnd (ctxN G n) ms ρ st noX Q' ∧
  ∀ d st' H', Q' d st' → Ext st H st' H' → RS F X.K gv H' st' → ∃ b, d = .bl b ∧ Q b H'
def tOrT (G : Pg) (gv : GV) (n : Nat) (X : Cx) (ms : Es) : TT := fun σ H Q => ∃ F ρ st Q', RE F X.K gv H st ρ σ ∧ RS F X.K gv H st ∧ wOr (ctxN G n) ms ρ st noX Q' ∧
  ∀ d st' H', Q' d st' → Ext st H st' H' → RS F X.K gv H' st' → ∃ b, d = .bl b ∧ Q b H'
def tO (G : Pg) (gv : GV) (n : Nat) (X : Cx) (m : Eo) : TO := fun σ H Q => ∃ F ρ st Q', RE F X.K gv H st ρ σ ∧ RS F X.K gv H st ∧ wEo (ctxN G n) m ρ st noX Q' ∧
  ∀ o st' H', Q' o st' → Ext st H st' H' → RS F X.K gv H' st' → Q o H'
def tC_ (G : Pg) (gv : GV) (n : Nat) (X : Cx) (m : Eo) : TT := fun σ H Q => ∃ F ρ st Q', RE F X.K gv H st ρ σ ∧ RS F X.K gv H st ∧ wC (ctxN G n) m ρ st noX Q' ∧
  ∀ b st' H', Q' b st' → Ext st H st' H' → RS F X.K gv H' st' → Q b H'
def tI (G : Pg) (gv : GV) (n : Nat) (X : Cx) (m : It) : TI := fun σ H R => ∃ F ρ st Q', RE F X.K gv H st ρ σ ∧ RS F X.K gv H st ∧ wIt (ctxN G n) m ρ st noX Q' ∧
  ∀ items g st' J H', Q' items g st' → Ext st H st' H' → RS F X.K gv H' st' → JOk F X gv J items g st' H' → R J H'
theorem PE.weak {e : Expr} {t t' : TE} (h : PE X e t) (w : ∀ σ H Q, t' σ H Q → t σ H Q) : PE X e t' := ⟨fun pins s σ H Q I q => h.run pins s σ H Q I (w σ H Q q)⟩
theorem PT.weak {e : Expr} {t t' : TT} (h : PT X e t) (w : ∀ σ H Q, t' σ H Q → t σ H Q) : PT X e t' := ⟨fun pins s σ H Q I q => h.run pins s σ H Q I (w σ H Q q)⟩
theorem PW.weak {e : Expr} {t t' : TT} (h : PW X e t) (w : ∀ σ H Q, t' σ H Q → t σ H Q) : PW X e t' := ⟨fun wh pins s σ H Q I q => h.run wh pins s σ H Q I (w σ H Q q)⟩
theorem PA.weak {e : List Expr} {t t' : TA} (h : PA X e t) (w : ∀ σ H Q, t' σ H Q → t σ H Q) : PA X e t' := ⟨fun pos pins s σ H Q I q => h.run pos pins s σ H Q I (w σ H Q q)⟩
theorem PO.weak {e : Option Expr} {t t' : TO} (h : PO X e t) (w : ∀ σ H Q, t' σ H Q → t σ H Q) : PO X e t' := ⟨fun pins s σ H Q I q => h.run pins s σ H Q I (w σ H Q q)⟩
theorem PI.weak {tg e : Expr} {t t' : TI} (h : PI X tg e t) (w : ∀ σ H Q, t' σ H Q → t σ H Q) : PI X tg e t' := ⟨fun pins s σ H Q I q => h.run pins s σ H Q I (w σ H Q q)⟩
theorem OpR.exF {f : Value → Value → Sem Value} {r : (Addr → Prop) → R2} (h : ∀ F, OpR X f (r F)) : OpR X f (fun x y H Q => ∃ F, r F x y H Q) := fun pins s σ H x y v u Q I rx ry ⟨F, q⟩ => h F pins s σ H x y v u Q I rx ry q
theorem IxR.exF {r : (Addr → Prop) → R2} (h : ∀ F, IxR X (r F)) : IxR X (fun x y H Q => ∃ F, r F x y H Q) := fun a b pins s σ H x y v u Q I rx ry ⟨F, q⟩ e => h F a b pins s σ H x y v u Q I rx ry q e
theorem SlR.exF {r : (Addr → Prop) → V → Option Int → Option Int → Hp → VK → Prop} (h : ∀ F, SlR X (r F)) : SlR X (fun x l u H Q => ∃ F, r F x l u H Q) := fun pins s σ H x v vl vu lo hi sl Q I rx hs pl pu ⟨F, q⟩ => h F pins s σ H x v vl vu lo hi sl Q I rx hs pl pu q
theorem CallR.exF {f : Value} {r : (Addr → Prop) → List V → Hp → VK → Prop} (h : ∀ F, CallR X f (r F)) : CallR X f (fun xs H Q => ∃ F, r F xs H Q) := fun pins s σ H xs us Q I rv ⟨F, q⟩ => h F pins s σ H xs us Q I rv q
theorem PG.exF {e : Expr} {r : (Addr → Prop) → TG} (h : ∀ F, PG X e (r F)) : PG X e (fun v σ H Q => ∃ F, r F v σ H Q) := ⟨fun pins s σ H v u Q I rv ⟨F, q⟩ => (h F).run pins s σ H v u Q I rv q⟩
def gTg (X : Cx) (gv : GV) (t : Tg) : TG := fun v σ H Q => ∃ F, tTg F X gv t v σ H Q
/-- a comprehension -/
theorem lc_read {fr : Bool} {elt : E} {tg : Tg} {it : It} {t : Eo} {own : List Nat} (ho : ∀ i ∈ tgIx tg, i ∈ own) (σ : L2.St) (H : Hp) (Q : VK) (hq : tE G gv n X (.lc fr elt tg it t own) σ H Q) :
    tLc (tI G gv n X it) (gTg X gv tg) (tC_ G gv n X t) (tE G gv n X elt) own σ H Q := by
  obtain ⟨F, ρ, st, Q', re, rs, w, p⟩ := hq
  refine ⟨F, ρ, st, _, re, rs, w, fun items g st1 J H1 q1 x1 rs1 jok L hL => ?_⟩
  have hF := plus_new (F := F) hL
  have re1 : RE (plus F L) X.K gv H1 st1 ρ σ := (re.mono rs x1.f).hide hF
  have nF : ¬ F L := rs1.nf hL
  refine ⟨fun i m H2 => ∃ st2 acc vs, Ext st1 H1 st2 H2 ∧ RS (plus F L) X.K gv H2 st2 ∧ H2 L = some (.lst vs) ∧ RDs (plus F L) X.K gv H2 st2 acc vs ∧ m = items.length - i ∧ i ≤ items.length ∧
    lcW g (fun x st K => tgW tg x (wipeD ρ own) st fun ρ st => wC (ctxN G n) t ρ st noX fun b st => if b = true then wE (ctxN G n) elt ρ st noX (fun y st => K (some y) st) else K none st) (items.drop i) acc st2 (fun acc st => if fr = true then Q' (.lst acc) st else newL acc st Q'),
    ⟨items.length, st1, [], [], Ext.laid rs1 hL, rs1.begin hL, upd_same, .nil, rfl, Nat.zero_le _, q1⟩, fun i m H2 hW => ?_⟩
  obtain ⟨st2, acc, vs, x2, rs2, hl, ha, hm, hi, w2⟩ := hW
  have nL : st2 L = none := (rs2.hid L (.inr rfl)).2
  by_cases hlt : i < items.length
  · have ed : items.drop i = items[i] :: items.drop (i + 1) := List.drop_eq_getElem_cons hlt
    rw [ed] at w2
    obtain ⟨hg, w2⟩ := w2
    refine .inr ⟨jok.go _ i st2 H2 hF x2.f rs2 hg hlt, _, fun H' h => h, fun x H3 hy => ?_⟩
    obtain ⟨x3, rs3, d, ed2, rd3⟩ := jok.yld _ i st2 H2 x H3 hF x2.f rs2 hg hlt hy
    rw [List.getElem?_eq_getElem hlt] at ed2
    cases ed2
    have re3 : RE (plus F L) X.K gv H3 st2 (wipeD ρ own) (wipe σ own) := (re1.mono rs1 (x2.trans x3).f).wipe own
    refine ⟨plus F L, wipeD ρ own, st2, _, _, re3, rs3, rd3, w2, fun ρ' st3 σ' H4 q4 x4 rs4 re4 hw => ⟨(hw own ho).trans (wipe_wipe σ own), plus F L, ρ', st3, _, re4, rs4, q4, fun b st4 H5 q5 x5 rs5 => ?_⟩⟩
    have x25 : Ext st2 H2 st4 H5 := (x3.trans x4).trans x5
    cases b with
    | true =>
      refine ⟨plus F L, ρ', st4, _, re4.mono rs4 x5.f, rs5, q5, fun y st5 vy H6 q6 x6 rs6 rd6 => ?_⟩
      have x26 := x25.trans x6
      have hl6 := (x26.keep L _ hl nL).1
      have ha6 := ha.mono rs2 x26.f
      obtain ⟨q6a, q6⟩ := q6
      refine ⟨vs, hl6, by rw [← ha.length, sizeLine_eq]; unfold big at q6a; omega, items.length - (i + 1), by omega, st5, acc ++ [y], vs ++ [vy], ?_, rs6.grow, upd_same, (ha6.append (.cons rd6 .nil)).mono rs6 extF_grow, rfl, hlt, q6⟩
      refine ⟨fun a o h0 h1 => ?_, fun a h0 => (x2.trans x26).cell a h0⟩
      obtain ⟨k1, k2⟩ := (x2.trans x26).keep a o h0 h1
      exact ⟨by rw [upd_ne (ne_of_none h0 hL)]; exact k1, k2⟩
    | false =>
      refine ⟨items.length - (i + 1), by omega, st4, acc, vs, x2.trans x25, rs5, (x25.keep L _ hl nL).1, ha.mono rs2 x25.f, rfl, hlt, q5⟩
  · have ed : items.drop i = [] := List.drop_eq_nil_of_le (by omega)
    rw [ed] at w2
    obtain ⟨hg, w2⟩ := w2
    refine .inl ⟨jok.stop _ i st2 H2 hF x2.f rs2 hg (by omega), ?_⟩
    cases fr with
    | true => exact p _ st2 _ H2 w2 (x1.trans x2) rs2.show_ (.lst hl nL nF (ha.weak (fun _ => .inl) (fun _ _ h => h) fun _ h => h))
    | false =>
      refine p _ _ _ H2 (w2 L nL) (x1.trans ⟨fun a o h0 h1 => ?_, fun a h0 => ?_⟩) (rs2.cellN nF hl ha) (.loc (by rw [up_same]; exact fun z => nomatch z))
      · obtain ⟨k1, k2⟩ := x2.keep a o h0 h1
        exact ⟨k1, by rw [up_ne (ne_of_none h0 hL)]; exact k2⟩
      · by_cases z : a = L
        · subst z
          rw [up_same]
          exact fun z => nomatch z
        · rw [up_ne z]
          exact x2.cell a h0
/-- from the value to the test -/
theorem pt_of {m : E} {e : Expr} (h : PE X e (tE G gv n X m)) (he : ∀ whole, isTrue e X.env whole = (do let v ← whole; standAt e.pos; holding [v] (truthy v))) : PT X e (tT G gv n X m) := by
  refine PT.weak (pt_val h he) fun σ H Q ⟨F, ρ, st, Q', re, rs, w, p⟩ => ⟨F, ρ, st, Q', re, rs, w, fun d st' v H' q x rs' rd => ?_⟩
  obtain ⟨b, rfl, q2⟩ := p d st' H' q x rs'
  cases rd
  exact ⟨b, rfl, q2⟩
/-- no item of an argument list is starred -/
theorem rE_star {m : E} {e : Expr} (r : rE c m e = true) {env : PySem.Env} {es : List Expr} : starEach (e :: es) env = (false, eval e env) :: starEach es env := by
  cases e <;> first | rfl | (cases m <;> (simp [rE] at r; done))
theorem rEs_plain {env : PySem.Env} {pos : Pos} : ∀ {ms : Es} {es : List Expr}, rEs c ms es = true → (backTo pos (starEach es env)).any (·.1) = false
  | .nil, [], _ => rfl
  | .nil, _ :: _, r => by cases r
  | .cons _ _, [], r => by cases r
  | .cons m ms, e :: es, r => by
    obtain ⟨r1, r2⟩ := Bool.and_eq_true_iff.mp (show (rE c m e && rEs c ms es) = true from r)
    rw [rE_star r1]
    show (false || (backTo pos (starEach es env)).any (·.1)) = false
    rw [rEs_plain r2]
    rfl
theorem rEs_len : ∀ {ms : Es} {es : List Expr}, rEs c ms es = true → ms.len = es.length
  | .nil, [], _ => rfl
  | .nil, _ :: _, r => by cases r
  | .cons _ _, [], r => by cases r
  | .cons m ms, e :: es, r => congrArg Nat.succ (rEs_len (Bool.and_eq_true_iff.mp (show (rE c m e && rEs c ms es) = true from r)).2)
theorem rKs_len : ∀ {ks : List Str} {ms : Es} {kws : List Keyword}, rKs c ks ms kws = true → ms.len = ks.length
  | [], .nil, [], _ => rfl
  | [], .nil, _ :: _, r => by simp [rKs] at r
  | [], .cons _ _, _, r => by simp [rKs] at r
  | _ :: _, .nil, _, r => by simp [rKs] at r
  | _ :: _, .cons _ _, [], r => by simp [rKs] at r
  | k :: ks, .cons m ms, ⟨none, e, p⟩ :: kws, r => by simp [rKs] at r
  | k :: ks, .cons m ms, ⟨some k', e, p⟩ :: kws, r => congrArg Nat.succ (rKs_len (Bool.and_eq_true_iff.mp (show (decide (k = k') && rE c m e && rKs c ks ms kws) = true from r)).2)
theorem rE_base {m : E} {e : Expr} (r : rE c m e = true) (h : call0 e = false) {a : Str} {env : PySem.Env} : attributeBase e a env (eval e env) = eval e env := by
  cases e <;> first | rfl | skip
  rename_i f es kws pos
  cases es with
  | nil => cases h
  | cons _ _ => cases f <;> rfl
theorem rE_ix {m : E} {e : Expr} (r : rE c m e = true) : PlainIx e := by
  cases e <;> first | (intro _ _; rfl) | (cases m <;> (simp [rE] at r; done))
theorem keys_ok {env : PySem.Env} {pos : Pos} : ∀ {ks : List Str} {ms : Es} {kws : List Keyword}, rKs c ks ms kws = true →
    (backToKw pos (keywordEach kws env)).all (·.1.isSome) = true ∧ (backToKw pos (keywordEach kws env)).filterMap (·.1) = ks ∧ (backToKw pos (keywordEach kws env)).any (·.1.isNone) = false
  | [], .nil, [], _ => ⟨rfl, rfl, rfl⟩
  | [], .nil, _ :: _, r => by simp [rKs] at r
  | [], .cons _ _, _, r => by simp [rKs] at r
  | _ :: _, .nil, _, r => by simp [rKs] at r
  | _ :: _, .cons _ _, [], r => by simp [rKs] at r
  | k :: ks, .cons m ms, ⟨none, e, p⟩ :: kws, r => by simp [rKs] at r
  | k :: ks, .cons m ms, ⟨some k', e, p⟩ :: kws, r => by
    obtain ⟨r1, r3⟩ := Bool.and_eq_true_iff.mp (show (decide (k = k') && rE c m e && rKs c ks ms kws) = true from r)
    obtain ⟨r1, r2⟩ := Bool.and_eq_true_iff.mp r1
    obtain ⟨h1, h2, h3⟩ := keys_ok (env := env) (pos := pos) r3
    have e1 := of_decide_eq_true r1
    subst e1
    refine ⟨?_, ?_, ?_⟩
    · show (true && (backToKw pos (keywordEach kws env)).all (·.1.isSome)) = true
      rw [h1]
      rfl
    · show k :: (backToKw pos (keywordEach kws env)).filterMap (·.1) = _
      rw [h2]
    · show (false || (backToKw pos (keywordEach kws env)).any (·.1.isNone)) = false
      rw [h3]
      rfl
end
end Mi
/-! ## M8: the simulation of expressions -/
namespace Mi
open PySem PySem.Spec PyProof.Rows L2
variable {G : Pg} {gv : GV} {n : Nat}
theorem ands {a b : Bool} (h : (a && b) = true) : a = true ∧ b = true := Bool.and_eq_true_iff.mp h
theorem XG.blk {c : RCx} {X : Cx} (h : XG G gv n c X) {scope : Scope} {own : List Nat} (hb : blkC c.N c.sc scope (ownOf c own) = true) (s : Shared) (H : Hp) (C : Addr) (cl : List (Str × Addr)) (fp : List Addr) :
    XG G gv n (c.blk scope) (X.blk s H scope (compEnvC scope cl C X.env) fp) where
  xn := {
    N := h.xn.N
    nd := h.xn.nd
    sc := by
      show relS scope X.env.scope = relS scope c.sc
      rw [h.xn.sc]
    own := fun x e => by
      have e : (match scope.names.lookup x with
        | some .local => true
        | some .cell => true
        | _ => false) = true := e
      cases q : scope.names.lookup x with
      | none => rw [q] at e; cases e
      | some k =>
        rw [q] at e
        cases k <;> first | (cases e; done) | skip
        · exact .inr (lookup_relS_keep (by decide) q)
        · refine .inl ?_
          show (scope.names.lookup x == some .cell) = true
          rw [q]
          rfl
    calm := h.xn.calm }
  mg := ⟨h.mg.call, h.mg.glb, h.mg.blt⟩
  room := h.room
  fs := h.fs
  gd := h.gd
  gw := h.gw
  kw := h.kw
theorem simBi {c : RCx} {X : Cx} (h : XG G gv n c X) (b : Bi) {x : Str} {p pos : Pos} {e : Expr} {es : List Expr} {ms : Es} (e1 : biN b = x) (g : glB c x = true) (ha : PA X (e :: es) (tL G gv n X ms))
    (he : starEach (e :: es) X.env = (false, eval e X.env) :: starEach es X.env) (hpl : (backTo pos (starEach es X.env)).any (·.1) = false) : PE X (.Call (.Name x p) (e :: es) [] pos) (tE G gv n X (.bi b ms)) := by
  obtain ⟨hg, hdb⟩ := h.xn.gl g
  have hc : CallR X (biF b) (fun xs H Q => ∃ F, rBi F X gv b xs H Q) := CallR.exF fun F => bir h.xn.calm h.un h.gd b
  have hm : X.mg x = none := h.mg.blt x (by rw [← e1]; cases b <;> decide)
  have fin : ∀ t, PE X (.Call (.Name x p) (e :: es) [] pos) t → t = tCB (fun xs H Q => ∃ F, rBi F X gv b xs H Q) (tL G gv n X ms) → PE X (.Call (.Name x p) (e :: es) [] pos) (tE G gv n X (.bi b ms)) := fun t ht et => by
    subst et
    refine PE.weak ht fun σ H Q ⟨F, ρ, st, Q', re, rs, w, p⟩ => ?_
    exact ⟨F, ρ, st, _, re, rs, w, fun ds st1 vs H1 q1 x1 rs1 rd1 _ => ⟨F, st1, ds, Q', rs1, rd1, q1, fun d st2 v H2 q2 x2 rs2 rd2 => p d st2 v H2 q2 (x1.trans x2) rs2 rd2⟩⟩
  cases b
  case len => exact fin _ (pe_callB hc hg hm (by rw [← e1]; decide +kernel) ha (by rw [← e1]; decide) hdb he hpl) rfl
  case abs => exact fin _ (pe_callB hc hg hm (by rw [← e1]; decide +kernel) ha (by rw [← e1]; decide) hdb he hpl) rfl
  case all => exact fin _ (pe_callB hc hg hm (by rw [← e1]; decide +kernel) ha (by rw [← e1]; decide) hdb he hpl) rfl
  case any => exact fin _ (pe_callB hc hg hm (by rw [← e1]; decide +kernel) ha (by rw [← e1]; decide) hdb he hpl) rfl
  case sum => exact fin _ (pe_callB hc hg hm (by rw [← e1]; decide +kernel) ha (by rw [← e1]; decide) hdb he hpl) rfl
  case min1 => exact fin _ (pe_callB hc hg hm (by rw [← e1]; decide +kernel) ha (by rw [← e1]; decide) hdb he hpl) rfl
  case min2 => exact fin _ (pe_callB hc hg hm (by rw [← e1]; decide +kernel) ha (by rw [← e1]; decide) hdb he hpl) rfl
  case max1 => exact fin _ (pe_callB hc hg hm (by rw [← e1]; decide +kernel) ha (by rw [← e1]; decide) hdb he hpl) rfl
  case max2 => exact fin _ (pe_callB hc hg hm (by rw [← e1]; decide +kernel) ha (by rw [← e1]; decide) hdb he hpl) rfl
  case sorted => exact fin _ (pe_callB hc hg hm (by rw [← e1]; decide +kernel) ha (by rw [← e1]; decide) hdb he hpl) rfl
  case sortedL => exact fin _ (pe_callB hc hg hm (by rw [← e1]; decide +kernel) ha (by rw [← e1]; decide) hdb he hpl) rfl
  case repr => exact fin _ (pe_callB hc hg hm (by rw [← e1]; decide +kernel) ha (by rw [← e1]; decide) hdb he hpl) rfl
  case int => exact fin _ (pe_callTy hc hg hm (by rw [← e1]; decide +kernel) ha (by rw [← e1]; decide) hdb he hpl) rfl
  case list => exact fin _ (pe_callTy hc hg hm (by rw [← e1]; decide +kernel) ha (by rw [← e1]; decide) hdb he hpl) rfl
  case listL => exact fin _ (pe_callTy hc hg hm (by rw [← e1]; decide +kernel) ha (by rw [← e1]; decide) hdb he hpl) rfl
  case tuple => exact fin _ (pe_callTy hc hg hm (by rw [← e1]; decide +kernel) ha (by rw [← e1]; decide) hdb he hpl) rfl
  case dict => exact fin _ (pe_callTy hc hg hm (by rw [← e1]; decide +kernel) ha (by rw [← e1]; decide) hdb he hpl) rfl
  case dictL => exact fin _ (pe_callTy hc hg hm (by rw [← e1]; decide +kernel) ha (by rw [← e1]; decide) hdb he hpl) rfl
  case str => exact fin _ (pe_callTy hc hg hm (by rw [← e1]; decide +kernel) ha (by rw [← e1]; decide) hdb he hpl) rfl
  case range1 => exact fin _ (pe_callTy hc hg hm (by rw [← e1]; decide +kernel) ha (by rw [← e1]; decide) hdb he hpl) rfl
  case range2 => exact fin _ (pe_callTy hc hg hm (by rw [← e1]; decide +kernel) ha (by rw [← e1]; decide) hdb he hpl) rfl
theorem simMt {c : RCx} {X : Cx} (h : XG G gv n c X) (m : Mt) {ap pos : Pos} {o' : Expr} {es' : List Expr} {o : E} {es : Es} (ho : PE X o' (tE G gv n X o)) (ha : PA X es' (tL G gv n X es)) (r : rEs c es es' = true) (hline : (ap.endLine == pos.line) = true)
    (hbase : attributeBase o' (mtN m) X.env (eval o' X.env) = eval o' X.env) (hlen : mtA m es'.length = true) : PE X (.Call (.Attribute o' (mtN m) ap) es' [] pos) (tE G gv n X (.mth m o es)) := by
  have some_ : ∀ e0 es0, es' = e0 :: es0 → (e0 :: es0).length < 20 → starEach (e0 :: es0) X.env = (false, eval e0 X.env) :: starEach es0 X.env ∧ (backTo pos (starEach es0 X.env)).any (·.1) = false ∧ ((backTo pos (starEach (e0 :: es0) X.env)).all (fun x => !x.1) && (backToKw pos (keywordEach [] X.env)).all (fun x => x.1.isSome)
      && decide ((e0 :: es0).length + ([] : List Keyword).length + (if ([] : List Keyword).isEmpty then 0 else 1) < 30)) = true := fun e0 es0 ee hlen => by
    subst ee
    cases es with
    | nil => cases r
    | cons m0 ms0 =>
      obtain ⟨k1, k2⟩ := ands (show (rE c m0 e0 && rEs c ms0 es0) = true from r)
      refine ⟨rE_star k1, rEs_plain k2, ?_⟩
      have q := rEs_plain (env := X.env) (pos := pos) r
      have q1 : (backTo pos (starEach (e0 :: es0) X.env)).all (fun x => !x.1) = true := by
        rw [List.all_eq_not_any_not]
        simpa using q
      rw [q1]
      show (true && decide ((e0 :: es0).length + 0 + 0 < 30)) = true
      rw [decide_eq_true (show (e0 :: es0).length + 0 + 0 < 30 by omega)]
      rfl
  cases m with
  | append =>
    cases es' with
    | nil => cases hlen
    | cons e0 es0 =>
      obtain ⟨k1, k2, k3⟩ := some_ e0 es0 rfl (by
        have q : es0.length + 1 = 1 := by simpa [mtA] using hlen
        simp only [List.length_cons]
        omega)
      refine PE.weak (pe_bm PySem.F.plainAttrs_list PySem.F.slot_list_append PySem.F.type_list_append mt_append ho ha hbase k3 hline k1 k2) fun σ H Q ⟨F, ρ, st, Q', re, rs, w, p⟩ => ?_
      refine ⟨F, ρ, st, _, re, rs, w, fun x st1 vx H1 q1 x1 rs1 rd1 => ?_⟩
      obtain ⟨hr, q1⟩ := q1
      cases x <;> first | exact hr.elim | skip
      rename_i a
      cases rd1
      obtain ⟨ys, hy⟩ := hr
      obtain ⟨vs, hv, _⟩ := rs1.cell (X := X) hy
      refine ⟨.inl ⟨rfl, _, SqL.of hv⟩, F, ρ, st1, _, re.mono rs x1.f, rs1, q1, fun ds st2 us H2 q2 x2 rs2 rd2 _ => ?_⟩
      cases rd2 with
      | nil => exact q2.elim
      | cons d1 d2 =>
        cases d2 with
        | cons _ _ => exact q2.elim
        | nil =>
          obtain ⟨ys, hy, hl, q2⟩ := q2
          obtain ⟨vs, hv, hs⟩ := rs2.cell (X := X) hy
          obtain ⟨x3, rs3⟩ := rs2.write (X := X) hy (hs.append (.cons d1 .nil))
          refine ⟨_, vs, _, rfl, rfl, hv, by rw [← hs.length, sizeLine_eq]; unfold big at hl; omega, p _ _ _ _ q2 ((x1.trans x2).trans x3) rs3 .non⟩
  | popAt =>
    cases es' with
    | nil => cases hlen
    | cons e0 es0 =>
      obtain ⟨k1, k2, k3⟩ := some_ e0 es0 rfl (by
        have q : es0.length + 1 = 1 := by simpa [mtA] using hlen
        simp only [List.length_cons]
        omega)
      refine PE.weak (pe_bm PySem.F.plainAttrs_list PySem.F.slot_list_pop PySem.F.type_list_pop mt_popAt ho ha hbase k3 hline k1 k2) fun σ H Q ⟨F, ρ, st, Q', re, rs, w, p⟩ => ?_
      refine ⟨F, ρ, st, _, re, rs, w, fun x st1 vx H1 q1 x1 rs1 rd1 => ?_⟩
      obtain ⟨hr, q1⟩ := q1
      cases x <;> first | exact hr.elim | skip
      rename_i a
      cases rd1
      obtain ⟨ys, hy⟩ := hr
      obtain ⟨vs, hv, _⟩ := rs1.cell (X := X) hy
      refine ⟨.inl ⟨rfl, _, SqL.of hv⟩, F, ρ, st1, _, re.mono rs x1.f, rs1, q1, fun ds st2 us H2 q2 x2 rs2 rd2 _ => ?_⟩
      cases rd2 with
      | nil => exact q2.elim
      | cons d1 d2 =>
        cases d2 with
        | cons _ _ => cases d1 <;> exact q2.elim
        | nil =>
          cases d1 <;> first | exact q2.elim | skip
          rename_i i _
          obtain ⟨ys, k, y, hy, hi, hk, hyk, q2⟩ := q2
          obtain ⟨vs, hv, hs⟩ := rs2.cell (X := X) hy
          obtain ⟨x3, rs3⟩ := rs2.write (X := X) hy (hs.erase k)
          obtain ⟨v, e1, rd⟩ := hs.get hyk
          have hk' : seqIndex? i vs.length = some k := by
            rw [← hs.length]
            exact (ixN_seq (n := ys.length) (i := i) (j := k) hk).1
          exact ⟨_, vs, i, k, v, rfl, rfl, hv, by have := hi.1; omega, by have := hi.2; omega, hk', e1, p _ _ _ _ q2 ((x1.trans x2).trans x3) rs3 (rd.mono rs2 x3.f)⟩
  | pop =>
    cases es' with
    | cons _ _ => simp [mtA] at hlen
    | nil =>
      cases es with
      | cons _ _ => cases r
      | nil =>
        refine PE.weak (pe_bm0 PySem.F.plainAttrs_list PySem.F.slot_list_pop PySem.F.type_list_pop mt_pop ho hbase hline) fun σ H Q ⟨F, ρ, st, Q', re, rs, w, p⟩ => ?_
        refine ⟨F, ρ, st, _, re, rs, w, fun x st1 vx H1 q1 x1 rs1 rd1 => ?_⟩
        obtain ⟨hr, q1⟩ := q1
        cases x <;> first | exact hr.elim | skip
        rename_i a
        cases rd1
        obtain ⟨ys, y, hy, hyk, q2⟩ := q1
        obtain ⟨vs, hv, hs⟩ := rs1.cell (X := X) hy
        obtain ⟨x3, rs3⟩ := rs1.write (X := X) hy hs.dropLast
        obtain ⟨v, e1, rd⟩ := hs.get hyk
        exact ⟨.inl ⟨rfl, _, SqL.of hv⟩, _, vs, v, rfl, rfl, hv, by rw [← hs.length]; exact e1, p _ _ _ _ q2 (x1.trans x3) rs3 (rd.mono rs1 x3.f)⟩
  | _ => cases hlen
/-- isinstance -/
theorem tyx {K : PySem.W.Frag} {F : Addr → Prop} {H : Hp} {st : Store} {d : D} {v : V} {t : Ty} {k : Bool} (h : Vw F K gv H st d v) (e : isT t d = some k) : ∃ T, TyX K H v (.type T) ∧ PySem.W.kitOne K (.type T) (.type (tyN t)) = some k := by
  have tupT : ∀ {a : Addr} {vs : List V}, TuF F K H a vs → TyX K H (.ref a) (.type "tuple") := fun h => by
    rcases h with ⟨o, its, n, h1, h2, _⟩ | ⟨h | ⟨o, h⟩, _⟩
    · exact .kTuple h1 h2
    · exact .base (.tup h)
    · exact .fTuple h
  cases h
  case non => cases t <;> (cases e; exact ⟨"NoneType", .base .non, kit_ty (by decide +kernel)⟩)
  case bl b => cases t <;> (cases e; exact ⟨"bool", .base (.bl b), kit_ty (by decide +kernel)⟩)
  case int i => cases t <;> (cases e; exact ⟨"int", .base (.int i), kit_ty (by decide +kernel)⟩)
  case str x => cases t <;> (cases e; exact ⟨"str", .base (.str x), kit_ty (by decide +kernel)⟩)
  case tup h _ => cases t <;> (cases e; exact ⟨"tuple", tupT h, kit_ty (by decide +kernel)⟩)
  case lst h _ => cases t <;> (cases e; exact ⟨"list", .base (.lst h), kit_ty (by decide +kernel)⟩)
  case dct0 h => cases t <;> (cases e; exact ⟨"dict", .base (.dK h), kit_ty (by decide +kernel)⟩)
  case ro _ _ => cases t <;> cases e
  case tab _ _ _ => cases t <;> cases e
  case glo _ => cases t <;> cases e
theorem tyN_boot (t : Ty) : bootBuiltins (Str.ofString (tyN t)) = some (.type (tyN t)) := by
  cases t <;> decide +kernel
theorem tyN_blt (t : Ty) : Str.ofString (tyN t) ∈ bltNames := by
  cases t <;> decide
theorem tyN_not (t : Ty) : (Str.ofString (tyN t)) ≠ "__name__" := by
  cases t <;> decide
end Mi
/-! ## M9: the simulation of expressions: one induction -/
namespace Mi
open PySem PySem.Spec PyProof.Rows L2
variable {G : Pg} {gv : GV} {n : Nat}
theorem own_eq (c : RCx) (own : List Nat) : (ownOf c own).map (·.2) = own := by
  unfold ownOf
  rw [List.map_map]
  induction own with
  | nil => rfl
  | cons i is ih => rw [List.map_cons, ih]; rfl
theorem rIt_fold {c : RCx} {m : It} {e : Expr} (r : rIt c m e = true) {env : PySem.Env} : ∀ x, foldedSetIterable e env x = pure x := by
  cases e <;> first | (intro _; rfl) | (cases m <;> first | (simp [rIt] at r; done) | (rename_i k; cases k <;> (simp [rIt, rE] at r; done)))
theorem lc_pe {c : RCx} {X : Cx} (h : XG G gv n c X) {fr : Bool} {elt : E} {tg : Tg} {it : It} {t : Eo} {own : List Nat} {elt' tg' it' : Expr} {ifs' : List Expr} {scope : Scope} {pos : Pos} (hi : PI X tg' it' (tI G gv n X it)) (hb : blkC c.N c.sc scope (ownOf c own) = true)
    (hg : rTg (c.blk scope) tg tg' = true) (ht : ∀ (s : Shared) (H : Hp) (C : Addr) (cl : List (Str × Addr)) (fp : List Addr), PTs (X.blk s H scope (compEnvC scope cl C X.env) fp) ifs' (tC_ G gv n X t))
    (he : ∀ (s : Shared) (H : Hp) (C : Addr) (cl : List (Str × Addr)) (fp : List Addr), PE (X.blk s H scope (compEnvC scope cl C X.env) fp) elt' (tE G gv n X elt)) (ho : (tgIx tg).all (own.contains ·) = true) (hf : rIt c it it' = true) :
    PE X (.ListComp elt' [⟨tg', it', ifs', 0⟩] scope pos) (tE G gv n X (.lc fr elt tg it t own)) := by
  have ok : BlkOk X.N X.env.scope scope (ownOf c own) := by
    rw [h.xn.N, h.xn.sc]
    exact blkOk_by hb
  have pe := pe_lc (pos := pos) h.xn.calm h.xn.nd hi ok (fun s H C cl fp => PG.exF (r := fun F => tTg F X gv tg) fun F => show PG _ tg' (tTg F X gv tg) from pg_tg (F := F) (gv := gv) (h.blk hb s H C cl fp).xn hg) ht he (rIt_fold hf)
  rw [own_eq] at pe
  exact PE.weak pe fun σ H Q hq => lc_read (fun i hi => by simpa using List.all_eq_true.mp ho i hi) σ H Q hq
mutual
theorem simE : ∀ (m : E) (c : RCx) (X : Cx) (e : Expr), XG G gv n c X → rE c m e = true → PE X e (tE G gv n X m) ∧ (isIf e = false → PT X e (tT G gv n X m))
  | .v i, c, X, e, h, r => by
    cases e <;> first | (simp [rE] at r; done) | skip
    rename_i x pos
    have r : rName c i x = true := r
    unfold rName at r
    obtain ⟨r, r4⟩ := ands r
    obtain ⟨r, r3⟩ := ands r
    obtain ⟨r1, r2⟩ := ands r
    have pe : PE X (.Name x pos) (tE G gv n X (.v i)) := by
      refine PE.weak (pe_var (i := i) (by rw [h.xn.N]; exact of_decide_eq_true r1) (h.xn.vis r2) (by simpa using r3) (by simpa using r4)) fun σ H Q ⟨F, ρ, st, Q', re, rs, w, p⟩ => ?_
      have w : (match lk ρ i with
        | some d => Q' d st
        | none => False) := w
      cases q : lk ρ i with
      | none => rw [q] at w; exact w.elim
      | some d =>
        rw [q] at w
        obtain ⟨v, e1, rd⟩ := re.get q
        exact ⟨v, e1, p.here rs w rd⟩
    exact ⟨pe, fun _ => pt_of pe fun _ => rfl⟩
  | .int i, c, X, e, h, r => by
    cases e <;> first | (simp [rE] at r; done) | skip
    rename_i k j pos
    cases k <;> first | (simp [rE] at r; done) | skip
    have e1 := of_decide_eq_true (show decide (i = _) = true from r)
    subst e1
    have pe : PE X (.Constant (.int i) j pos) (tE G gv n X (.int i)) := PE.weak pe_int fun σ H Q ⟨F, ρ, st, Q', re, rs, w, p⟩ => p.here rs w (.int i)
    exact ⟨pe, fun _ => pt_of pe fun _ => rfl⟩
  | .str x, c, X, e, h, r => by
    cases e <;> first | (simp [rE] at r; done) | skip
    rename_i k j pos
    cases k <;> first | (simp [rE] at r; done) | skip
    have e1 := of_decide_eq_true (show decide (x = _) = true from r)
    subst e1
    have pe : PE X (.Constant (.str x) j pos) (tE G gv n X (.str x)) := PE.weak pe_str fun σ H Q ⟨F, ρ, st, Q', re, rs, w, p⟩ => p.here rs w (.str x)
    exact ⟨pe, fun _ => pt_of pe fun _ => rfl⟩
  | .bl b, c, X, e, h, r => by
    cases e <;> first | (simp [rE] at r; done) | skip
    rename_i k j pos
    cases k <;> first | (simp [rE] at r; done) | skip
    have e1 := eq_of_beq (show (b == _) = true from r)
    subst e1
    have pe : PE X (.Constant (.bool b) j pos) (tE G gv n X (.bl b)) := PE.weak pe_bl fun σ H Q ⟨F, ρ, st, Q', re, rs, w, p⟩ => p.here rs w (.bl b)
    exact ⟨pe, fun _ => pt_of pe fun _ => rfl⟩
  | .non, c, X, e, h, r => by
    cases e <;> first | (simp [rE] at r; done) | skip
    rename_i k j pos
    cases k <;> first | (simp [rE] at r; done) | skip
    have pe : PE X (.Constant .none j pos) (tE G gv n X .non) := PE.weak pe_non fun σ H Q ⟨F, ρ, st, Q', re, rs, w, p⟩ => p.here rs w .non
    exact ⟨pe, fun _ => pt_of pe fun _ => rfl⟩
  | .glb x, c, X, e, h, r => by
    cases e <;> first | (simp [rE] at r; done) | skip
    rename_i y pos
    obtain ⟨r1, r2⟩ := ands (show (decide (x = y) && glB c y) = true from r)
    have e1 := of_decide_eq_true r1
    subst e1
    obtain ⟨hg, hdb⟩ := h.xn.gl r2
    have pe : PE X (.Name x pos) (tE G gv n X (.glb x)) := by
      cases q : G.glb x with
      | none =>
        refine ⟨fun pins s σ H Q I hq => ?_⟩
        obtain ⟨F, ρ, st, Q', re, rs, w, p⟩ := hq
        have w : (match G.glb x with
          | some d => Q' d st
          | none => False) := w
        rw [q] at w
        exact w.elim
      | some d =>
        obtain ⟨u, v, hm, rv, hr⟩ := h.mg.glb x d q
        refine PE.weak (pe_glob hg hm rv hdb) fun σ H Q ⟨F, ρ, st, Q', re, rs, w, p⟩ => ?_
        have w : (match G.glb x with
          | some d => Q' d st
          | none => False) := w
        rw [q] at w
        exact p.here rs w (hr F H st rs)
    exact ⟨pe, fun _ => pt_of pe fun _ => rfl⟩
  | .bin o a b, c, X, e, h, r => by
    cases e <;> first | (simp [rE] at r; done) | skip
    rename_i a' op b' pos
    obtain ⟨r, r3⟩ := ands (show (opE o op && rE c a a' && rE c b b') = true from r)
    obtain ⟨r1, r2⟩ := ands r
    have e1 := of_decide_eq_true (show decide (opB o = op) = true from r1)
    subst e1
    have pe : PE X (.BinOp a' (opB o) b' pos) (tE G gv n X (.bin o a b)) := by
      refine PE.weak (pe_op (OpR.exF fun F => opr_bin (F := F) (gv := gv) o) (simE a c X a' h r2).1 (simE b c X b' h r3).1) fun σ H Q ⟨F, ρ, st, Q', re, rs, w, p⟩ => ?_
      exact ⟨F, ρ, st, _, re, rs, w, fun x st1 vx H1 q1 x1 rs1 rd1 => ⟨F, ρ, st1, _, re.mono rs x1.f, rs1, q1, fun y st2 vy H2 q2 x2 rs2 rd2 =>
        ⟨F, st2, x, y, Q', rs2, rd1.mono rs1 x2.f, rd2, q2, fun d st3 v H3 q3 x3 => p d st3 v H3 q3 ((x1.trans x2).trans x3)⟩⟩⟩
    exact ⟨pe, fun _ => pt_of pe fun _ => rfl⟩
  | .neg a, c, X, e, h, r => by
    cases e <;> first | (simp [rE] at r; done) | skip
    rename_i op a' pos
    cases op <;> first | (simp [rE] at r; done) | skip
    have r : rE c a a' = true := r
    have pe : PE X (.UnaryOp .USub a' pos) (tE G gv n X (.neg a)) := by
      refine PE.weak (pe_un un_neg (simE a c X a' h r).1) fun σ H Q ⟨F, ρ, st, Q', re, rs, w, p⟩ => ?_
      refine ⟨F, ρ, st, _, re, rs, w, fun x st1 vx H1 q1 x1 rs1 rd1 => ?_⟩
      cases rd1 <;> first | exact q1.elim | skip
      exact ⟨_, rfl, p _ st1 _ H1 q1 x1 rs1 (.int _)⟩
    exact ⟨pe, fun _ => pt_of pe fun _ => rfl⟩
  | .cmp o a b, c, X, e, h, r => by
    cases e <;> first | (simp [rE] at r; done) | skip
    rename_i a' ops bs pos
    cases ops with
    | nil => simp [rE] at r
    | cons op ops =>
      cases bs with
      | nil => cases ops <;> (simp [rE] at r; done)
      | cons b' bs =>
        cases ops with
        | cons _ _ => cases bs <;> (simp [rE] at r; done)
        | nil =>
          cases bs with
          | cons _ _ => simp [rE] at r
          | nil =>
            obtain ⟨r, r4⟩ := ands (show (cmE o op && rE c a a' && rE c b b' && !(behindInMarks op b')) = true from r)
            obtain ⟨r, r3⟩ := ands r
            obtain ⟨r1, r2⟩ := ands r
            have e1 := of_decide_eq_true (show decide (cmB o = op) = true from r1)
            subst e1
            have hm : behindInMarks (cmB o) b' = false := by simpa using r4
            have rd : ∀ σ H (Q : VK) F ρ st Q', RE F X.K gv H st ρ σ → RS F X.K gv H st → wE (ctxN G n) (.cmp o a b) ρ st noX Q' → (∀ d st' H', Q' d st' → Ext st H st' H' → RS F X.K gv H' st' → ∀ k, d = .bl k → Q (.bl k) H') → tOp (fun x y H Q => ∃ F, rCmp F X gv o x y H Q) (tE G gv n X a) (tE G gv n X b) σ H Q := by
              intro σ H Q F ρ st Q' re rs w p
              exact ⟨F, ρ, st, _, re, rs, w, fun x st1 vx H1 q1 x1 rs1 rd1 => ⟨F, ρ, st1, _, re.mono rs x1.f, rs1, q1, fun y st2 vy H2 q2 x2 rs2 rd2 =>
                ⟨F, st2, x, y, _, rs2, rd1.mono rs1 x2.f, rd2, q2, fun k hk => p _ st2 H2 hk (x1.trans x2) rs2 k rfl⟩⟩⟩
            refine ⟨PE.weak (pe_cmpR (OpR.exF fun F => opr_cmp (F := F) (gv := gv) (by have := h.un; omega) h.gw o) (simE a c X a' h r2).1 (simE b c X b' h r3).1 hm) fun σ H Q ⟨F, ρ, st, Q', re, rs, w, p⟩ => rd σ H Q F ρ st Q' re rs w fun d st' H' q x rs' k e => ?_,
              fun _ => PT.weak (pt_cmpR (OpR.exF fun F => opr_cmp (F := F) (gv := gv) (by have := h.un; omega) h.gw o) (simE a c X a' h r2).1 (simE b c X b' h r3).1 hm) fun σ H Q ⟨F, ρ, st, Q', re, rs, w, p⟩ => rd σ H _ F ρ st Q' re rs w fun d st' H' q x rs' k e => ?_⟩
            · subst e
              exact p _ st' _ H' q x rs' (.bl k)
            · subst e
              obtain ⟨k', e', q'⟩ := p _ st' H' q x rs'
              cases e'
              exact ⟨k, rfl, q'⟩
  | .chain o o' a b d, c, X, e, h, r => by
    cases e <;> first | (simp [rE] at r; done) | skip
    rename_i a' ops bs pos
    obtain ⟨op, op', b', d', rfl, rfl⟩ : ∃ op op' b' d', ops = [op, op'] ∧ bs = [b', d'] := by
      rcases ops with _ | ⟨op, _ | ⟨op', _ | ⟨_, _⟩⟩⟩ <;> rcases bs with _ | ⟨b', _ | ⟨d', _ | ⟨_, _⟩⟩⟩ <;> first | (simp [rE] at r; done) | exact ⟨_, _, _, _, rfl, rfl⟩
    obtain ⟨r, r6⟩ := ands (show (cmE o op && cmE o' op' && rE c a a' && rE c b b' && rE c d d' && !(lastMarks [op, op'] [b', d'])) = true from r)
    obtain ⟨r, r5⟩ := ands r
    obtain ⟨r, r4⟩ := ands r
    obtain ⟨r, r3⟩ := ands r
    obtain ⟨r1, r2⟩ := ands r
    have e1 := of_decide_eq_true (show decide (cmB o = op) = true from r1)
    have e2 := of_decide_eq_true (show decide (cmB o' = op') = true from r2)
    subst e1 e2
    have hm : lastMarks [cmB o, cmB o'] [b', d'] = false := by simpa using r6
    have hu : X.A.units + 64 < cLine := by have := h.un; omega
    have rd : ∀ σ H (Q : VK) F ρ st Q', RE F X.K gv H st ρ σ → RS F X.K gv H st → wE (ctxN G n) (.chain o o' a b d) ρ st noX Q' → (∀ d st' H', Q' d st' → Ext st H st' H' → RS F X.K gv H' st' → ∀ k, d = .bl k → Q (.bl k) H') →
        tChain (fun x y H Q => ∃ F, rCmp F X gv o x y H Q) (fun x y H Q => ∃ F, rCmp F X gv o' x y H Q) (tE G gv n X a) (tE G gv n X b) (tE G gv n X d) σ H Q := by
      intro σ H Q F ρ st Q' re rs w p
      refine ⟨F, ρ, st, _, re, rs, w, fun x st1 vx H1 q1 x1 rs1 rd1 => ⟨F, ρ, st1, _, re.mono rs x1.f, rs1, q1, fun y st2 vy H2 q2 x2 rs2 rd2 =>
        ⟨F, st2, x, y, _, rs2, rd1.mono rs1 x2.f, rd2, q2, fun k hk => ⟨k, rfl, ?_⟩⟩⟩⟩
      have x12 := x1.trans x2
      cases k with
      | false => exact p _ st2 H2 hk x12 rs2 false rfl
      | true => exact ⟨F, ρ, st2, _, re.mono rs x12.f, rs2, hk, fun z st3 vz H3 q3 x3 rs3 rd3 => ⟨F, st3, y, z, _, rs3, rd2.mono rs2 x3.f, rd3, q3, fun k hk => p _ st3 H3 hk (x12.trans x3) rs3 k rfl⟩⟩
    refine ⟨PE.weak (pe_chain (OpR.exF fun F => opr_cmp (F := F) (gv := gv) hu h.gw o) (OpR.exF fun F => opr_cmp (F := F) (gv := gv) hu h.gw o') (simE a c X a' h r3).1 (simE b c X b' h r4).1 (simE d c X d' h r5).1 hm) fun σ H Q ⟨F, ρ, st, Q', re, rs, w, p⟩ => rd σ H Q F ρ st Q' re rs w fun d st' H' q x rs' k e => ?_,
      fun _ => PT.weak (pt_chain (OpR.exF fun F => opr_cmp (F := F) (gv := gv) hu h.gw o) (OpR.exF fun F => opr_cmp (F := F) (gv := gv) hu h.gw o') (simE a c X a' h r3).1 (simE b c X b' h r4).1 (simE d c X d' h r5).1 hm) fun σ H Q ⟨F, ρ, st, Q', re, rs, w, p⟩ => rd σ H _ F ρ st Q' re rs w fun d st' H' q x rs' k e => ?_⟩
    · subst e
      exact p _ st' _ H' q x rs' (.bl k)
    · subst e
      obtain ⟨k', e', q'⟩ := p _ st' H' q x rs'
      cases e'
      exact ⟨k, rfl, q'⟩
  | .and_ es, c, X, e, h, r => by
    cases e <;> first | (simp [rE] at r; done) | skip
    rename_i op es' pos
    cases op <;> first | (simp [rE] at r; done) | skip
    obtain ⟨r1, r2⟩ := ands (show (rEs c es es' && !(es'.any isIf)) = true from r)
    have q := simAnd es c X es' pos h r1
    exact ⟨PE.weak q.1 fun _ _ _ z => z, fun _ => PT.weak (q.2 (by simpa using r2)).pt fun _ _ _ z => z⟩
  | .or_ es, c, X, e, h, r => by
    cases e <;> first | (simp [rE] at r; done) | skip
    rename_i op es' pos
    cases op <;> first | (simp [rE] at r; done) | skip
    obtain ⟨r1, r2⟩ := ands (show (rEs c es es' && !(es'.any isIf)) = true from r)
    have q := simOr es c X es' pos h r1
    exact ⟨PE.weak q.1 fun _ _ _ z => z, fun _ => PT.weak (q.2 (by simpa using r2)).pt fun _ _ _ z => z⟩
  | .not_ a, c, X, e, h, r => by
    cases e <;> first | (simp [rE] at r; done) | skip
    rename_i op a' pos
    cases op <;> first | (simp [rE] at r; done) | skip
    obtain ⟨r1, r2⟩ := ands (show (rE c a a' && !(isIf a')) = true from r)
    have q := simE a c X a' h r1
    refine ⟨PE.weak (pe_not q.1) fun σ H Q ⟨F, ρ, st, Q', re, rs, w, p⟩ => ?_, fun _ => PT.weak (pt_not (q.2 (by simpa using r2))) fun σ H Q ⟨F, ρ, st, Q', re, rs, w, p⟩ => ?_⟩
    · refine ⟨F, ρ, st, _, re, rs, w, fun x st1 vx H1 q1 x1 rs1 rd1 => ?_⟩
      cases rd1 <;> first | exact q1.elim | skip
      exact ⟨_, rfl, p _ st1 _ H1 q1 x1 rs1 (.bl _)⟩
    · refine ⟨F, ρ, st, _, re, rs, w, fun x st1 H1 q1 x1 rs1 => ?_⟩
      cases x <;> first | exact q1.elim | skip
      obtain ⟨k', e', q'⟩ := p _ st1 H1 q1 x1 rs1
      cases e'
      exact ⟨_, rfl, q'⟩
  | .ife t a b, c, X, e, h, r => by
    cases e <;> first | (simp [rE] at r; done) | skip
    rename_i t' a' b' pos
    obtain ⟨r, r4⟩ := ands (show (rE c t t' && !(isIf t') && rE c a a' && rE c b b') = true from r)
    obtain ⟨r, r3⟩ := ands r
    obtain ⟨r1, r2⟩ := ands r
    refine ⟨PE.weak (pe_ifExp ((simE t c X t' h r1).2 (by simpa using r2)) (simE a c X a' h r3).1 (simE b c X b' h r4).1) fun σ H Q ⟨F, ρ, st, Q', re, rs, w, p⟩ => ?_, fun z => by cases z⟩
    refine ⟨F, ρ, st, _, re, rs, w, fun x st1 H1 q1 x1 rs1 => ?_⟩
    cases x <;> first | exact q1.elim | skip
    rename_i k
    refine ⟨k, rfl, ?_⟩
    cases k with
    | true => exact ⟨F, ρ, st1, _, re.mono rs x1.f, rs1, q1, fun d st2 v H2 q2 x2 => p d st2 v H2 q2 (x1.trans x2)⟩
    | false => exact ⟨F, ρ, st1, _, re.mono rs x1.f, rs1, q1, fun d st2 v H2 q2 x2 => p d st2 v H2 q2 (x1.trans x2)⟩
  | .ix a i, c, X, e, h, r => by
    cases e <;> first | (simp [rE] at r; done) | skip
    rename_i a' i' pos
    have r' : (rE c a a' && rE c i i') = true := by
      cases i' <;> exact r
    obtain ⟨r1, r2⟩ := ands r'
    have pe : PE X (.Subscript a' i' pos) (tE G gv n X (.ix a i)) := by
      refine PE.weak (pe_ix (IxR.exF fun F => ixr (F := F) (gv := gv)) (simE a c X a' h r1).1 (simE i c X i' h r2).1 (rE_ix r2)) fun σ H Q ⟨F, ρ, st, Q', re, rs, w, p⟩ => ?_
      exact ⟨F, ρ, st, _, re, rs, w, fun x st1 vx H1 q1 x1 rs1 rd1 => ⟨F, ρ, st1, _, re.mono rs x1.f, rs1, q1, fun y st2 vy H2 q2 x2 rs2 rd2 =>
        ⟨F, st2, x, y, Q', rs2, rd1.mono rs1 x2.f, rd2, q2, fun d st3 v H3 q3 x3 => p d st3 v H3 q3 ((x1.trans x2).trans x3)⟩⟩⟩
    exact ⟨pe, fun _ => pt_of pe fun _ => rfl⟩
  | .sl a lo hi, c, X, e, h, r => by
    cases e <;> first | (simp [rE] at r; done) | skip
    rename_i a' i' pos
    cases i' <;> first | (simp [rE] at r; done) | skip
    rename_i lo' hi' sp p2
    cases sp <;> first | (simp [rE] at r; done) | skip
    obtain ⟨r, r3⟩ := ands (show (rE c a a' && rEo c lo lo' && rEo c hi hi') = true from r)
    obtain ⟨r1, r2⟩ := ands r
    have pe : PE X (.Subscript a' (.Slice lo' hi' none p2) pos) (tE G gv n X (.sl a lo hi)) := by
      refine PE.weak (pe_slice (SlR.exF fun F => slr (F := F) (gv := gv)) (simE a c X a' h r1).1 (simO lo c X lo' h r2) (simO hi c X hi' h r3)) fun σ H Q ⟨F, ρ, st, Q', re, rs, w, p⟩ => ?_
      exact ⟨F, ρ, st, _, re, rs, w, fun x st1 vx H1 q1 x1 rs1 rd1 => ⟨F, ρ, st1, _, re.mono rs x1.f, rs1, q1, fun l st2 H2 q2 x2 rs2 => ⟨F, ρ, st2, _, re.mono rs (x1.trans x2).f, rs2, q2, fun u st3 H3 q3 x3 rs3 =>
        ⟨F, st3, x, Q', rs3, rd1.mono rs1 (x2.trans x3).f, q3, fun d st4 v H4 q4 x4 => p d st4 v H4 q4 (((x1.trans x2).trans x3).trans x4)⟩⟩⟩⟩
    exact ⟨pe, fun _ => pt_of pe fun _ => rfl⟩
  | .rev a, c, X, e, h, r => by
    cases e <;> (simp [rE] at r; done)
  | .tup es, c, X, e, h, r => by
    cases e <;> first | (simp [rE] at r; done) | skip
    rename_i es' k pos
    obtain ⟨r1, r2⟩ := ands (show (rEs c es es' && decide (es'.length ≤ 1000)) = true from r)
    have r2 := of_decide_eq_true r2
    have pe : PE X (.Tuple es' k pos) (tE G gv n X (.tup es)) := by
      refine PE.weak (pe_tup (simL es c X es' h r1)) fun σ H Q ⟨F, ρ, st, Q', re, rs, w, p⟩ => ?_
      refine ⟨F, ρ, st, _, re, rs, w, fun ds st1 vs H1 q1 x1 rs1 rd1 hl => ⟨by rw [hl, rEs_len r1, sizeLine_eq]; omega, ?_⟩⟩
      exact Pst.tup (st := st1) (Q' := Q') (fun d st2 v H2 q2 x2 => p d st2 v H2 q2 (x1.trans x2)) rs1 q1 rd1
    exact ⟨pe, fun _ => pt_of pe fun _ => rfl⟩
  | .lst fr es, c, X, e, h, r => by
    cases e <;> first | (simp [rE] at r; done) | skip
    rename_i es' pos
    obtain ⟨r1, r2⟩ := ands (show (rEs c es es' && decide (es'.length ≤ 1000)) = true from r)
    have r2 := of_decide_eq_true r2
    have pe : PE X (.List es' pos) (tE G gv n X (.lst fr es)) := by
      refine PE.weak (pe_lst (simL es c X es' h r1)) fun σ H Q ⟨F, ρ, st, Q', re, rs, w, p⟩ => ?_
      refine ⟨F, ρ, st, _, re, rs, w, fun ds st1 vs H1 q1 x1 rs1 rd1 hl => ⟨by rw [hl, rEs_len r1, sizeLine_eq]; omega, ?_⟩⟩
      cases fr with
      | true => exact Pst.lst (st := st1) (Q' := Q') (fun d st2 v H2 q2 x2 => p d st2 v H2 q2 (x1.trans x2)) rs1 q1 rd1
      | false => exact Pst.new (st := st1) (Q' := Q') (fun d st2 v H2 q2 x2 => p d st2 v H2 q2 (x1.trans x2)) rs1 q1 rd1
    exact ⟨pe, fun _ => pt_of pe fun _ => rfl⟩
  | .dic fr ks vs, c, X, e, h, r => by
    cases e <;> first | (simp [rE] at r; done) | skip
    rename_i ks' vs' pos
    cases ks <;> first | (simp [rE] at r; done) | skip
    cases vs <;> first | (simp [rE] at r; done) | skip
    cases ks' <;> first | (simp [rE] at r; done) | skip
    cases vs' <;> first | (simp [rE] at r; done) | skip
    have pe : PE X (.Dict [] [] pos) (tE G gv n X (.dic fr .nil .nil)) := by
      refine PE.weak pe_dnewK fun σ H Q ⟨F, ρ, st, Q', re, rs, w, p⟩ => ?_
      intro d hd
      cases fr with
      | true => exact p _ _ _ _ w (Ext.laid rs hd) (rs.laid hd) (.dct0 upd_same (rs.free hd) (rs.nf hd))
      | false => exact Pst.newD p rs w d hd
    exact ⟨pe, fun _ => pt_of pe fun _ => rfl⟩
  | .call f es, c, X, e, h, r => by
    cases e <;> first | (simp [rE] at r; done) | skip
    rename_i g es' kws pos
    cases g <;> first | (simp [rE] at r; done) | skip
    rename_i g gp
    cases kws <;> first | (simp [rE] at r; done) | skip
    obtain ⟨r, r4⟩ := ands (show (decide (f = g) && glB c g && rEs c es es' && c.fs.contains f) = true from r)
    obtain ⟨r, r3⟩ := ands r
    obtain ⟨r1, r2⟩ := ands r
    have e1 := of_decide_eq_true r1
    subst e1
    obtain ⟨d, hd⟩ := h.fs f r4
    obtain ⟨a, fd, ps, hm, hk, hb, hf, _⟩ := h.mg.call f d hd
    obtain ⟨hg, hdb⟩ := h.xn.gl r2
    have rd : ∀ σ H Q, tE G gv n X (.call f es) σ H Q → tCall (spN G gv X.K n f) [] E0 (tL G gv n X es) σ H Q := fun σ H Q ⟨F, ρ, st, Q', re, rs, w, p⟩ =>
      ⟨F, ρ, st, _, re, rs, w, fun ds st1 vs H1 q1 x1 rs1 rd1 _ => ⟨F, st1, ds, Q', rs1, by rw [List.append_nil]; exact rd1, q1, fun d st2 v H2 q2 x2 rs2 rd2 => p d st2 v H2 q2 (x1.trans x2) rs2 rd2⟩⟩
    have pe : PE X (.Call (.Name f gp) es' [] pos) (tE G gv n X (.call f es)) := by
      have hl := simL es c X es' h r3
      cases es' with
      | nil =>
        cases es <;> first | (simp [rEs] at r3; done) | skip
        refine PE.weak (pe_callG0 hf h.gd h.room hg hm hk hb hdb) fun σ H Q ⟨F, ρ, st, Q', re, rs, w, p⟩ => ?_
        exact ⟨F, st, [], Q', rs, .nil, w, fun d st2 v H2 q2 x2 rs2 rd2 => p d st2 v H2 q2 x2 rs2 rd2⟩
      | cons e0 es0 =>
        cases es with
        | nil => cases r3
        | cons m0 ms0 =>
          obtain ⟨k1, k2⟩ := ands (show (rE c m0 e0 && rEs c ms0 es0) = true from r3)
          exact PE.weak (pe_callG hf h.gd h.room hg hm hk hb hl hdb (rE_star k1) (rEs_plain k2)) rd
    exact ⟨pe, fun _ => pt_of pe fun _ => rfl⟩
  | .callk f es m ks kes, c, X, e, h, r => by
    cases e <;> first | (simp [rE] at r; done) | skip
    rename_i g es' kws pos
    cases g <;> first | (simp [rE] at r; done) | skip
    rename_i g gp
    have r0 : (decide (f = g) && glB c g && rEs c es es' && rKs c ks kes kws && c.fs.contains f && !((c.kw f m ks).isEmpty)) = true := by
      cases kws <;> exact r
    obtain ⟨r, r6⟩ := ands r0
    obtain ⟨r, r5⟩ := ands r
    obtain ⟨r, r4⟩ := ands r
    obtain ⟨r, r3⟩ := ands r
    obtain ⟨r1, r2⟩ := ands r
    have e1 := of_decide_eq_true r1
    subst e1
    obtain ⟨d, hd⟩ := h.fs f r5
    obtain ⟨a, fd, ps, hm, hk, hb, hf, hkw⟩ := h.mg.call f d hd
    obtain ⟨hg, hdb⟩ := h.xn.gl r2
    have kb := hkw m ks (by rw [h.kw]; simpa using r6)
    obtain ⟨k1, k2, k3⟩ := keys_ok (env := X.env) (pos := pos) r4
    have hKw := simK kes ks c X kws h r4
    have pe : PE X (.Call (.Name f gp) es' kws pos) (tE G gv n X (.callk f es m ks kes)) := by
      have hl := simL es c X es' h r3
      have rd : ∀ σ H Q, tE G gv n X (.callk f es m ks kes) σ H Q → tCallN m ks.length (spN G gv X.K n f) (fun us ws => pickL (G.kw f m ks) (us ++ ws)) E0 (tL G gv n X es) (tL G gv n X kes) σ H Q := fun σ H Q ⟨F, ρ, st, Q', re, rs, w, p⟩ =>
        ⟨F, ρ, st, _, re, rs, w, fun ds st1 vs H1 q1 x1 rs1 rd1 l1 => ⟨F, ρ, st1, _, re.mono rs x1.f, rs1, q1, fun ds2 st2 vs2 H2 q2 x2 rs2 rd2 l2 =>
          ⟨by rw [← rd1.length]; exact q2.1.1, by rw [← rd2.length]; exact q2.1.2, F, st2, _, Q', rs2, ((rd1.mono rs1 x2.f).append rd2).pick _, q2.2, fun d st3 v H3 q3 x3 => p d st3 v H3 q3 ((x1.trans x2).trans x3)⟩⟩⟩
      cases es' with
      | nil =>
        cases es <;> first | (simp [rEs] at r3; done) | skip
        have hpl : ((backTo pos (starEach [] X.env)).any (·.1) || (backToKw pos (keywordEach kws X.env)).any (·.1.isNone)) = false := by rw [k3]; rfl
        refine PE.weak (pe_callGN0 hf h.gd h.room hg hm hk kb hKw k1 k2 hdb hpl) fun σ H Q hq => ?_
        obtain ⟨F, ρ, st, Q', re, rs, w, p⟩ := hq
        exact ⟨F, ρ, st, _, re, rs, w, fun ds2 st2 vs2 H2 q2 x2 rs2 rd2 l2 => ⟨q2.1.1, by rw [← rd2.length]; exact q2.1.2, F, st2, _, Q', rs2, rd2.pick _, q2.2, fun d st3 v H3 q3 x3 => p d st3 v H3 q3 (x2.trans x3)⟩⟩
      | cons e0 es0 =>
        cases es with
        | nil => cases r3
        | cons m0 ms0 =>
          obtain ⟨j1, j2⟩ := ands (show (rE c m0 e0 && rEs c ms0 es0) = true from r3)
          have hpl : ((backTo pos (starEach (e0 :: es0) X.env)).any (·.1) || (backToKw pos (keywordEach kws X.env)).any (·.1.isNone)) = false := by
            rw [k3, rEs_plain r3]
            rfl
          exact PE.weak (pe_callGN hf h.gd h.room hg hm hk kb hl hKw k1 k2 hdb (rE_star j1) hpl) rd
    exact ⟨pe, fun _ => pt_of pe fun _ => by cases kws <;> rfl⟩
  | .bi b es, c, X, e, h, r => by
    cases e <;> first | (simp [rE] at r; done) | skip
    rename_i g es' kws pos
    cases g <;> first | (simp [rE] at r; done) | skip
    rename_i g gp
    cases kws <;> first | (simp [rE] at r; done) | skip
    obtain ⟨r, r4⟩ := ands (show (decide (biN b = g) && glB c g && rEs c es es' && !(es'.isEmpty)) = true from r)
    obtain ⟨r, r3⟩ := ands r
    obtain ⟨r1, r2⟩ := ands r
    have hl := simL es c X es' h r3
    cases es' with
    | nil => simp at r4
    | cons e0 es0 =>
      cases es with
      | nil => cases r3
      | cons m0 ms0 =>
        obtain ⟨k1, k2⟩ := ands (show (rE c m0 e0 && rEs c ms0 es0) = true from r3)
        have pe := simBi h b (pos := pos) (p := gp) (of_decide_eq_true r1) r2 hl (rE_star k1) (rEs_plain k2)
        exact ⟨pe, fun _ => pt_of pe fun _ => rfl⟩
  | .mth m o es, c, X, e, h, r => by
    cases e <;> first | (simp [rE] at r; done) | skip
    rename_i g es' kws pos
    cases g <;> first | (simp [rE] at r; done) | skip
    rename_i o' g ap
    cases kws <;> first | (simp [rE] at r; done) | skip
    obtain ⟨r, r6⟩ := ands (show (decide (mtN m = g) && rE c o o' && rEs c es es' && (ap.endLine == pos.line) && !(call0 o') && mtA m es'.length) = true from r)
    obtain ⟨r, r5⟩ := ands r
    obtain ⟨r, r4⟩ := ands r
    obtain ⟨r, r3⟩ := ands r
    obtain ⟨r1, r2⟩ := ands r
    have e1 := of_decide_eq_true r1
    subst e1
    have pe := simMt h m (pos := pos) (ap := ap) (simE o c X o' h r2).1 (simL es c X es' h r3) r3 r4 (rE_base r2 (by simpa using r5)) r6
    exact ⟨pe, fun _ => pt_of pe fun _ => rfl⟩
  | .isi a t, c, X, e, h, r => by
    cases e <;> first | (simp [rE] at r; done) | skip
    rename_i g es' kws pos
    cases g <;> first | (simp [rE] at r; done) | skip
    rename_i g gp
    cases kws <;> first | (cases es' <;> (simp [rE] at r; done)) | skip
    rcases es' with _ | ⟨a', _ | ⟨T', _ | ⟨_, _⟩⟩⟩ <;> first | (simp [rE] at r; done) | (cases T' <;> (simp [rE] at r; done)) | skip
    cases T' <;> first | (simp [rE] at r; done) | skip
    rename_i T tp
    obtain ⟨r, r5⟩ := ands (show (decide (g = ("isinstance" : Str)) && glB c g && glB c T && decide (T = Str.ofString (tyN t)) && rE c a a') = true from r)
    obtain ⟨r, r4⟩ := ands r
    obtain ⟨r, r3⟩ := ands r
    obtain ⟨r1, r2⟩ := ands r
    have e1 := of_decide_eq_true r1
    have e2 := of_decide_eq_true r4
    subst e1 e2
    obtain ⟨hg, hdb⟩ := h.xn.gl r2
    obtain ⟨hgT, hdT⟩ := h.xn.gl r3
    have pT : PE X (.Name (Str.ofString (tyN t)) tp) (L2.tC (.ty (tyN t))) := pe_bltn (v := .ty (tyN t)) hgT (h.mg.blt _ (tyN_blt t)) (tyN_boot t) rfl (tyN_not t) hdT
    have pe : PE X (.Call (.Name "isinstance" gp) [a', .Name (Str.ofString (tyN t)) tp] [] pos) (tE G gv n X (.isi a t)) := by
      refine PE.weak (pe_callB call_isi hg (h.mg.blt _ (by decide)) (by decide +kernel) (pa_cons (simE a c X a' h r5).1 (pa_cons pT pa_nil) (rE_star r5)) (by decide) hdb (rE_star r5)) fun σ H Q ⟨F, ρ, st, Q', re, rs, w, p⟩ => ?_
      refine ⟨F, ρ, st, _, re, rs, w, fun x st1 vx H1 q1 x1 rs1 rd1 => ?_⟩
      have vw := rd1.view rs1
      have q1 : (match isT t (der st1 x) with
        | some k => Q' (.bl k) st1
        | none => False) := q1
      cases q : isT t (der st1 x) with
      | none => rw [q] at q1; exact q1.elim
      | some k =>
        rw [q] at q1
        obtain ⟨T, h1, h2⟩ := tyx vw q
        exact ⟨vx, .ty (tyN t), _, _, k, rfl, .ty _, h1, h2, p _ st1 _ H1 q1 x1 rs1 (.bl k)⟩
    exact ⟨pe, fun _ => pt_of pe fun _ => rfl⟩
  | .lc fr elt tg it t own, c, X, e, h, r => by
    cases e <;> first | (simp [rE] at r; done) | skip
    rename_i elt' gs scope pos
    rcases gs with _ | ⟨⟨tg', it', ifs', asy⟩, _ | ⟨_, _⟩⟩ <;> first | (simp [rE] at r; done) | skip
    obtain ⟨r, r6⟩ := ands (show (decide (asy = 0) && rIt c it it' && blkC c.N c.sc scope (ownOf c own) && rTg (c.blk scope) tg tg' && rCs (c.blk scope) t ifs' && rE (c.blk scope) elt elt' && (tgIx tg).all (own.contains ·)) = true from r)
    obtain ⟨r, r5⟩ := ands r
    obtain ⟨r, r4⟩ := ands r
    obtain ⟨r, r3⟩ := ands r
    obtain ⟨r, r2⟩ := ands r
    obtain ⟨r0, r1⟩ := ands r
    have e0 := of_decide_eq_true r0
    subst e0
    have pe : PE X (.ListComp elt' [⟨tg', it', ifs', 0⟩] scope pos) (tE G gv n X (.lc fr elt tg it t own)) :=
      lc_pe h (simI it c X tg' it' h r1) r2 r3 (fun s H C cl fp => simC t _ _ ifs' (h.blk r2 s H C cl fp) r4) (fun s H C cl fp => (simE elt _ _ elt' (h.blk r2 s H C cl fp) r5).1) r6 r1
    exact ⟨pe, fun _ => pt_of pe fun _ => rfl⟩
theorem simL : ∀ (ms : Es) (c : RCx) (X : Cx) (es : List Expr), XG G gv n c X → rEs c ms es = true → PA X es (tL G gv n X ms)
  | .nil, c, X, es, h, r => by
    cases es <;> first | (simp [rEs] at r; done) | skip
    exact PA.weak pa_nil fun σ H Q ⟨F, ρ, st, Q', re, rs, w, p⟩ => p [] st [] H w Ext.refl rs .nil rfl
  | .cons m ms, c, X, es, h, r => by
    cases es <;> first | (simp [rEs] at r; done) | skip
    rename_i e es
    obtain ⟨r1, r2⟩ := ands (show (rE c m e && rEs c ms es) = true from r)
    refine PA.weak (pa_cons (simE m c X e h r1).1 (simL ms c X es h r2) (rE_star r1)) fun σ H Q ⟨F, ρ, st, Q', re, rs, w, p⟩ => ?_
    exact ⟨F, ρ, st, _, re, rs, w, fun x st1 vx H1 q1 x1 rs1 rd1 => ⟨F, ρ, st1, _, re.mono rs x1.f, rs1, q1, fun ds st2 vs H2 q2 x2 rs2 rd2 hl => p (x :: ds) st2 (vx :: vs) H2 q2 (x1.trans x2) rs2 (.cons (rd1.mono rs1 x2.f) rd2) (congrArg Nat.succ hl)⟩⟩
theorem simK : ∀ (ms : Es) (ks : List Str) (c : RCx) (X : Cx) (kws : List Keyword), XG G gv n c X → rKs c ks ms kws = true → PK X kws (tL G gv n X ms)
  | .nil, ks, c, X, kws, h, r => by
    cases ks <;> first | (cases kws <;> (simp [rKs] at r; done)) | skip
    cases kws <;> first | (simp [rKs] at r; done) | skip
    exact ⟨fun pos pins s σ H Q I ⟨F, ρ, st, Q', re, rs, w, p⟩ => pk_nil.run pos pins s σ H Q I (p [] st [] H w Ext.refl rs .nil rfl)⟩
  | .cons m ms, ks, c, X, kws, h, r => by
    cases ks <;> first | (cases kws <;> (simp [rKs] at r; done)) | skip
    rename_i k ks
    cases kws <;> first | (simp [rKs] at r; done) | skip
    rename_i kw kws
    obtain ⟨nm, e, kp⟩ := kw
    cases nm <;> first | (simp [rKs] at r; done) | skip
    rename_i k'
    obtain ⟨r, r3⟩ := ands (show (decide (k = k') && rE c m e && rKs c ks ms kws) = true from r)
    obtain ⟨r1, r2⟩ := ands r
    have q := pk_cons (kpos := kp) (nm := some k') (simE m c X e h r2).1 (simK ms ks c X kws h r3)
    refine ⟨fun pos pins s σ H Q I ⟨F, ρ, st, Q', re, rs, w, p⟩ => q.run pos pins s σ H Q I ?_⟩
    exact ⟨F, ρ, st, _, re, rs, w, fun x st1 vx H1 q1 x1 rs1 rd1 => ⟨F, ρ, st1, _, re.mono rs x1.f, rs1, q1, fun ds st2 vs H2 q2 x2 rs2 rd2 hl => p (x :: ds) st2 (vx :: vs) H2 q2 (x1.trans x2) rs2 (.cons (rd1.mono rs1 x2.f) rd2) (congrArg Nat.succ hl)⟩⟩
theorem simAnd : ∀ (ms : Es) (c : RCx) (X : Cx) (es : List Expr) (pos : Pos), XG G gv n c X → rEs c ms es = true → PE X (.BoolOp .And es pos) (tAnd_ G gv n X ms) ∧ (es.any isIf = false → PW X (.BoolOp .And es pos) (tAndT G gv n X ms))
  | .nil, c, X, es, pos, h, r => ⟨⟨fun _ _ _ _ _ _ ⟨_, _, _, _, _, _, w, _⟩ => False.elim w⟩, fun _ => ⟨fun _ _ _ _ _ _ _ ⟨_, _, _, _, _, _, w, _⟩ => False.elim w⟩⟩
  | .cons m ms, c, X, es, pos, h, r => by
    cases es with
    | nil => simp [rEs] at r
    | cons e es =>
      obtain ⟨r1, r2⟩ := ands (show (rE c m e && rEs c ms es) = true from r)
      have q1 := simE m c X e h r1
      have q2 := simAnd ms c X es pos h r2
      cases ms with
      | nil =>
        cases es <;> first | (simp [rEs] at r2; done) | skip
        exact ⟨PE.weak (pe_one q1.1) fun _ _ _ z => z, fun hf => PW.weak (pw_and1 (q1.2 (by simpa using hf))) fun _ _ _ z => z⟩
      | cons m2 ms2 =>
        cases es with
        | nil => simp [rEs] at r2
        | cons e2 es2 =>
          refine ⟨PE.weak (pe_and q1.1 q2.1) fun σ H Q ⟨F, ρ, st, Q', re, rs, w, p⟩ => ?_, fun hf => ?_⟩
          · refine ⟨F, ρ, st, _, re, rs, w, fun x st1 vx H1 k1 x1 rs1 rd1 => ?_⟩
            cases rd1 <;> first | exact k1.elim | skip
            rename_i b
            refine ⟨b, rfl, ?_⟩
            cases b with
            | true => exact ⟨F, ρ, st1, _, re.mono rs x1.f, rs1, k1, fun d st2 v H2 k2 x2 => p d st2 v H2 k2 (x1.trans x2)⟩
            | false => exact p _ st1 _ H1 k1 x1 rs1 (.bl _)
          · have hf : (isIf e || (e2 :: es2).any isIf) = false := hf
            obtain ⟨f1, f2⟩ := Bool.or_eq_false_iff.mp hf
            refine PW.weak (pw_and (q1.2 f1) (q2.2 f2)) fun σ H Q ⟨F, ρ, st, Q', re, rs, w, p⟩ => ?_
            refine ⟨F, ρ, st, _, re, rs, w, fun x st1 H1 k1 x1 rs1 => ?_⟩
            cases x <;> first | exact k1.elim | skip
            rename_i b
            refine ⟨b, rfl, ?_⟩
            cases b with
            | true => exact ⟨F, ρ, st1, _, re.mono rs x1.f, rs1, k1, fun d st2 H2 k2 x2 => p d st2 H2 k2 (x1.trans x2)⟩
            | false =>
              obtain ⟨k', e', q'⟩ := p _ st1 H1 k1 x1 rs1
              cases e'
              exact q'
theorem simOr : ∀ (ms : Es) (c : RCx) (X : Cx) (es : List Expr) (pos : Pos), XG G gv n c X → rEs c ms es = true → PE X (.BoolOp .Or es pos) (tOr_ G gv n X ms) ∧ (es.any isIf = false → PW X (.BoolOp .Or es pos) (tOrT G gv n X ms))
  | .nil, c, X, es, pos, h, r => ⟨⟨fun _ _ _ _ _ _ ⟨_, _, _, _, _, _, w, _⟩ => False.elim w⟩, fun _ => ⟨fun _ _ _ _ _ _ _ ⟨_, _, _, _, _, _, w, _⟩ => False.elim w⟩⟩
  | .cons m ms, c, X, es, pos, h, r => by
    cases es with
    | nil => simp [rEs] at r
    | cons e es =>
      obtain ⟨r1, r2⟩ := ands (show (rE c m e && rEs c ms es) = true from r)
      have q1 := simE m c X e h r1
      have q2 := simOr ms c X es pos h r2
      cases ms with
      | nil =>
        cases es <;> first | (simp [rEs] at r2; done) | skip
        exact ⟨PE.weak (pe_one q1.1) fun _ _ _ z => z, fun hf => PW.weak (pw_or1 (q1.2 (by simpa using hf))) fun _ _ _ z => z⟩
      | cons m2 ms2 =>
        cases es with
        | nil => simp [rEs] at r2
        | cons e2 es2 =>
          refine ⟨PE.weak (pe_or q1.1 q2.1) fun σ H Q ⟨F, ρ, st, Q', re, rs, w, p⟩ => ?_, fun hf => ?_⟩
          · refine ⟨F, ρ, st, _, re, rs, w, fun x st1 vx H1 k1 x1 rs1 rd1 => ?_⟩
            cases rd1 <;> first | exact k1.elim | skip
            rename_i b
            refine ⟨b, rfl, ?_⟩
            cases b with
            | false => exact ⟨F, ρ, st1, _, re.mono rs x1.f, rs1, k1, fun d st2 v H2 k2 x2 => p d st2 v H2 k2 (x1.trans x2)⟩
            | true => exact p _ st1 _ H1 k1 x1 rs1 (.bl _)
          · have hf : (isIf e || (e2 :: es2).any isIf) = false := hf
            obtain ⟨f1, f2⟩ := Bool.or_eq_false_iff.mp hf
            refine PW.weak (pw_or (q1.2 f1) (q2.2 f2)) fun σ H Q ⟨F, ρ, st, Q', re, rs, w, p⟩ => ?_
            refine ⟨F, ρ, st, _, re, rs, w, fun x st1 H1 k1 x1 rs1 => ?_⟩
            cases x <;> first | exact k1.elim | skip
            rename_i b
            refine ⟨b, rfl, ?_⟩
            cases b with
            | false => exact ⟨F, ρ, st1, _, re.mono rs x1.f, rs1, k1, fun d st2 H2 k2 x2 => p d st2 H2 k2 (x1.trans x2)⟩
            | true =>
              obtain ⟨k', e', q'⟩ := p _ st1 H1 k1 x1 rs1
              cases e'
              exact q'
theorem simO : ∀ (m : Eo) (c : RCx) (X : Cx) (e : Option Expr), XG G gv n c X → rEo c m e = true → PO X e (tO G gv n X m)
  | .none, c, X, e, h, r => by
    cases e <;> first | (simp [rEo] at r; done) | skip
    exact PO.weak po_none fun σ H Q ⟨F, ρ, st, Q', re, rs, w, p⟩ => p none st H w Ext.refl rs
  | .some m, c, X, e, h, r => by
    cases e <;> first | (simp [rEo] at r; done) | skip
    rename_i e
    refine PO.weak (po_some (simE m c X e h r).1) fun σ H Q ⟨F, ρ, st, Q', re, rs, w, p⟩ => ?_
    refine ⟨F, ρ, st, _, re, rs, w, fun x st1 vx H1 q1 x1 rs1 rd1 => ?_⟩
    cases rd1 <;> first | exact q1.elim | skip
    exact ⟨_, rfl, p _ st1 H1 q1 x1 rs1⟩
theorem simC : ∀ (m : Eo) (c : RCx) (X : Cx) (es : List Expr), XG G gv n c X → rCs c m es = true → PTs X es (tC_ G gv n X m)
  | .none, c, X, es, h, r => by
    cases es <;> first | (simp [rCs] at r; done) | skip
    exact ⟨fun pins s σ H Q I ⟨F, ρ, st, Q', re, rs, w, p⟩ => pts_nil.run pins s σ H Q I (p true st H w Ext.refl rs)⟩
  | .some m, c, X, es, h, r => by
    rcases es with _ | ⟨e, _ | ⟨_, _⟩⟩ <;> first | (simp [rCs] at r; done) | skip
    obtain ⟨r1, r2⟩ := ands (show (rE c m e && !(isIf e)) = true from r)
    have q := pts_one ((simE m c X e h r1).2 (by simpa using r2))
    refine ⟨fun pins s σ H Q I ⟨F, ρ, st, Q', re, rs, w, p⟩ => q.run pins s σ H Q I ⟨F, ρ, st, _, re, rs, w, fun d st1 H1 q1 x1 rs1 => ?_⟩⟩
    cases d <;> first | exact q1.elim | skip
    exact ⟨_, rfl, p _ st1 H1 q1 x1 rs1⟩
theorem simI : ∀ (m : It) (c : RCx) (X : Cx) (tg e : Expr), XG G gv n c X → rIt c m e = true → PI X tg e (tI G gv n X m)
  | .e a, c, X, tg, e, h, r => by
    refine PI.weak (pi_any (simE a c X e h r).1) fun σ H R ⟨F, ρ, st, Q', re, rs, w, p⟩ => ?_
    refine ⟨F, ρ, st, _, re, rs, w, fun x st1 vx H1 q1 x1 rs1 rd1 => ?_⟩
    obtain ⟨xs, e1, q1⟩ := q1
    rcases jok_any rs1 rd1 e1 with ⟨a, e2, hs, j⟩ | ⟨a, e2, hs, j⟩ | ⟨z, e2, j⟩
    · exact .inl ⟨a, e2, hs, p xs _ st1 _ H1 q1 x1 rs1 j⟩
    · exact .inr (.inl ⟨a, e2, hs, p xs _ st1 _ H1 q1 x1 rs1 j⟩)
    · exact .inr (.inr ⟨z, e2, p xs _ st1 _ H1 q1 x1 rs1 j⟩)
  | .rng1 a, c, X, tg, e, h, r => by
    cases e <;> first | (simp [rIt] at r; done) | skip
    rename_i g es' kws pos
    cases g <;> first | (simp [rIt] at r; done) | skip
    rename_i g gp
    rcases es' with _ | ⟨a', _ | ⟨_, _⟩⟩ <;> first | (simp [rIt] at r; done) | skip
    cases kws <;> first | (simp [rIt] at r; done) | skip
    obtain ⟨r, r3⟩ := ands (show (decide (g = ("range" : Str)) && glB c g && rE c a a') = true from r)
    obtain ⟨r1, r2⟩ := ands r
    have e1 := of_decide_eq_true r1
    subst e1
    obtain ⟨hg, hdb⟩ := h.xn.gl r2
    refine PI.weak (pi_range1 hg (h.mg.blt _ (by decide)) (pa_cons (simE a c X a' h r3).1 pa_nil (rE_star r3)) (rE_star r3)) fun σ H R ⟨F, ρ, st, Q', re, rs, w, p⟩ => ?_
    refine ⟨F, ρ, st, _, re, rs, w, fun x st1 vx H1 q1 x1 rs1 rd1 => ?_⟩
    cases rd1 <;> first | exact q1.elim | skip
    rename_i j
    obtain ⟨⟨k1, k2⟩, q1⟩ := q1
    exact ⟨j, rfl, k1, k2, p _ _ st1 _ H1 q1 x1 rs1 (jok_rng (by simp))⟩
  | .rng2 a b, c, X, tg, e, h, r => by
    cases e <;> first | (simp [rIt] at r; done) | skip
    rename_i g es' kws pos
    cases g <;> first | (simp [rIt] at r; done) | skip
    rename_i g gp
    rcases es' with _ | ⟨a', _ | ⟨b', _ | ⟨_, _⟩⟩⟩ <;> first | (simp [rIt] at r; done) | skip
    cases kws <;> first | (simp [rIt] at r; done) | skip
    obtain ⟨r, r4⟩ := ands (show (decide (g = ("range" : Str)) && glB c g && rE c a a' && rE c b b') = true from r)
    obtain ⟨r, r3⟩ := ands r
    obtain ⟨r1, r2⟩ := ands r
    have e1 := of_decide_eq_true r1
    subst e1
    obtain ⟨hg, hdb⟩ := h.xn.gl r2
    refine PI.weak (pi_range2 hg (h.mg.blt _ (by decide)) (pa_cons (simE a c X a' h r3).1 (pa_cons (simE b c X b' h r4).1 pa_nil (rE_star r4)) (rE_star r3)) (by rw [rE_star r3, rE_star r4]; rfl) (by rw [rE_star r4]; rfl)) fun σ H R ⟨F, ρ, st, Q', re, rs, w, p⟩ => ?_
    refine ⟨F, ρ, st, _, re, rs, w, fun x st1 vx H1 q1 x1 rs1 rd1 => ⟨F, ρ, st1, _, re.mono rs x1.f, rs1, q1, fun y st2 vy H2 q2 x2 rs2 rd2 => ?_⟩⟩
    cases rd1 <;> first | exact q2.elim | skip
    cases rd2 <;> first | exact q2.elim | skip
    rename_i i j
    obtain ⟨⟨⟨k1, k2⟩, k3, k4⟩, q2⟩ := q2
    exact ⟨i, j, rfl, ⟨k1, k2, k3, k4⟩, p _ _ st2 _ H2 q2 (x1.trans x2) rs2 (jok_rng rfl)⟩
  | .enum a, c, X, tg, e, h, r => by
    cases e <;> (simp [rIt] at r; done)
  | .zip a b, c, X, tg, e, h, r => by
    cases e <;> (simp [rIt] at r; done)
end
end Mi
/-! ## M10: the simulation of statements -/
namespace Mi
open PySem PySem.Spec PyProof.Rows L2
variable {G : Pg} {gv : GV} {n : Nat}
/-! ### o[i] = x; o[i], by values; x op= y -/
def rSetM (F : Addr → Prop) (X : Cx) (gv : GV) : TSet := fun o i v H Q => ∃ st dobj di dx Q', RS F X.K gv H st ∧ RD F X.K gv H st dobj o ∧ RD F X.K gv H st di i ∧ RD F X.K gv H st dx v ∧ setW dobj di dx st Q' ∧ Pst0 F X gv st H Q' Q
theorem psetM {F : Addr → Prop} {X : Cx} : PSet X (rSetM F X gv) := by
  intro pins s σ H o i v ov iv u Q I ro ri rv h
  obtain ⟨st, dobj, di, dx, Q', r, ho, hi, hx, w, p⟩ := h
  unfold setW at w
  cases ho <;> first | exact w.elim | skip
  rename_i a ha
  cases hi <;> first | (exact w.elim) | skip
  rename_i k
  simp only at w
  cases q : st a with
  | none => rw [q] at w; exact w.elim
  | some cl =>
    rw [q] at w
    cases cl with
    | dic _ _ => exact w.elim
    | lst ys =>
      obtain ⟨j, e, w⟩ := w
      obtain ⟨vs, hv, hs⟩ := r.cell (X := X) q
      obtain ⟨x, r2⟩ := r.write (X := X) q (hs.set hx j)
      exact set_list pins s σ H _ _ v ov iv u Q I ro ri rv ⟨a, vs, k, j, rfl, rfl, hv, by rw [← hs.length]; exact e, p _ _ w x r2⟩
def rGetM (F : Addr → Prop) (X : Cx) (gv : GV) : V → V → Hp → VK → Prop := rIxM F X gv
theorem get_listV {X : Cx} {pins : List (Addr × Obj)} {s : Shared} {σ : L2.St} {H : Hp} {a : Addr} {xs : List V} {i : Int} {t : Tok} {z : V} {Q : VK} (I : Inv X pins σ H s) (hq : SqL X.K H a xs) (he : atI xs i = some z) (q : Q z H) :
    wpAny (model X.prog X.w) X.A (getItem (.ref a) (.int i t)) (EP X pins σ Q) X.xe s := by
  obtain ⟨its, r, pl, hz⟩ := I.list hq
  obtain ⟨j, h1, h2, h3, h4, h5⟩ := atI_get he
  obtain ⟨w, ew, rw'⟩ := r.get h2
  have hl := r.length
  have hn := line63
  have fin : EP X pins σ Q w s := ⟨z, H, I, rw', q⟩
  by_cases h0 : 0 ≤ i
  · have hj : i.toNat = j := by
      rw [seqIndex_of h0 h5] at h1
      exact Option.some.inj h1
    exact wpAny_getItem_list pl.isList h0 (by omega) (by rw [hj]; simpa using ew) fin
  · have hj : (i + (its.toArray.size : Int)).toNat = j := by
      rw [seqIndex_neg (by omega) h4] at h1
      rw [List.size_toArray, ← hl]
      exact Option.some.inj h1
    exact wpAny_getItem_list_neg pl.isList (by omega) (by rw [List.size_toArray] <;> omega) (by omega) (by rw [hj]; simpa using ew) fin
theorem pgetM {F : Addr → Prop} {X : Cx} : PGet X (rIxM F X gv) := by
  intro pins s σ H x y v u Q I rx ry h
  obtain ⟨st, dx, dy, Q', r, hx, hy, w, p⟩ := h
  have vx := hx.view r
  unfold ixW at w
  generalize der st dx = ex at w vx
  cases hy with
  | int i =>
    obtain ⟨t, rfl⟩ := ry
    cases vx <;> first | exact w.elim | skip
    all_goals obtain ⟨d, e, w⟩ := w
    · rename_i a xs vs h1 h2
      obtain ⟨z, e2, rz⟩ := at_get h2 e
      cases rx
      obtain ⟨its, r2, pl, hz⟩ := I.tuple h1.seq
      obtain ⟨j, k1, k2, k3, k4, k5⟩ := atI_get e2
      obtain ⟨w2, ew, rw'⟩ := r2.get k2
      have hl := r2.length
      have hn := line63
      exact getItem_tuple (j := j) pl (by omega) (by omega) (by rw [List.size_toArray, ← hl]; exact k1) (by simpa using ew) ⟨z, H, I, rw', p.here r w rz⟩
    · rename_i a xs vs h1 h2
      obtain ⟨z, e2, rz⟩ := at_get h2 e
      cases rx
      exact get_listV I (SqL.of h1) e2 (p.here r w rz)
    · rename_i a xs vs h1 h2
      obtain ⟨z, e2, rz⟩ := at_get h2 e
      cases rx
      exact get_listV I h1.seq e2 (p.here r w rz)
  | _ => cases vx <;> exact w.elim
def rAug (F : Addr → Prop) (X : Cx) (gv : GV) (o : Op2) : TIp := fun x y H Q => ∃ st dx dy Q', RS F X.K gv H st ∧ RD F X.K gv H st dx x ∧ RD F X.K gv H st dy y ∧ augW o dx dy st Q' ∧ Pst F X gv st H Q' Q
theorem augr {F : Addr → Prop} {X : Cx} (o : Op2) : PIp X (opB o) (rAug F X gv o) := by
  intro pins s σ H x y v u Q I rx ry h
  obtain ⟨st, dx, dy, Q', r, hx, hy, w, p⟩ := h
  cases o <;> first | (cases hx <;> cases hy <;> exact w.elim) | skip
  case add =>
    cases hx <;> cases hy <;> first | exact w.elim | skip
    · exact iop_add pins s σ H _ _ v u Q I rx ry ⟨_, _, rfl, rfl, p.here r w (.int _)⟩
    · exact iop_add_str pins s σ H _ _ v u Q I rx ry ⟨_, _, rfl, rfl, big_line w.1, p.here r w.2 (.str _)⟩
  case sub =>
    cases hx <;> cases hy <;> first | exact w.elim | skip
    exact iop_sub pins s σ H _ _ v u Q I rx ry ⟨_, _, rfl, rfl, p.here r w (.int _)⟩
  case mul =>
    cases hx <;> cases hy <;> first | exact w.elim | skip
    exact iop_mul pins s σ H _ _ v u Q I rx ry ⟨_, _, rfl, rfl, w.1, p.here r w.2 (.int _)⟩
  case fdiv =>
    cases hx <;> cases hy <;> first | exact w.elim | skip
    exact iop_fdiv pins s σ H _ _ v u Q I rx ry ⟨_, _, rfl, rfl, w.1, p.here r w.2 (.int _)⟩
  case mod =>
    cases hx <;> cases hy <;> first | exact w.elim | skip
    exact iop_mod pins s σ H _ _ v u Q I rx ry ⟨_, _, rfl, rfl, w.1, p.here r w.2 (.int _)⟩
theorem PSet.exF {X : Cx} {r : (Addr → Prop) → TSet} (h : ∀ F, PSet X (r F)) : PSet X (fun o i v H Q => ∃ F, r F o i v H Q) := fun pins s σ H o i v ov iv u Q I ro ri rv ⟨F, q⟩ => h F pins s σ H o i v ov iv u Q I ro ri rv q
theorem PGet.exF {X : Cx} {r : (Addr → Prop) → V → V → Hp → VK → Prop} (h : ∀ F, PGet X (r F)) : PGet X (fun o i H Q => ∃ F, r F o i H Q) := fun pins s σ H o i ov iv Q I ro ri ⟨F, q⟩ => h F pins s σ H o i ov iv Q I ro ri q
theorem PIp.exF {X : Cx} {op : Operator} {r : (Addr → Prop) → TIp} (h : ∀ F, PIp X op (r F)) : PIp X op (fun x y H Q => ∃ F, r F x y H Q) := fun pins s σ H x y v u Q I rx ry ⟨F, q⟩ => h F pins s σ H x y v u Q I rx ry q

/-! ### the statements' text -/
def notComp : Expr → Bool
  | .ListComp .. => false
  | .SetComp .. => false
  | .DictComp .. => false
  | _ => true
def isLoc (c : RCx) (x : Str) : Bool := decide (c.sc.names.lookup x = some .local)
def plainA (c : RCx) (t e : Expr) : Bool := match t with
  | .Name x p => notComp e || !(isLoc c x) || !(p.line == e.pos.line)
  | .Tuple ts _ _ => match e with
    | .Tuple vs _ _ => vs.all (foldedForSure 8) || !(ts.length == 2 || ts.length == 3)
    | _ => notComp e
  | _ => false
/-- name = [..] on one line -/
def swA (c : RCx) (tg : Tg) (t e : Expr) : Bool := match tg, t, e with
  | .name i, .Name y py, .ListComp _ _ scope p => decide (c.N[i]? = some y) && isLoc c y && (py.line == p.line) && !(scope.names.any fun (n, k) => n == y && (k == .local || k == .cell)) && decide (c.sc.kind = .function)
  | _, _, _ => false
def isStar : Expr → Bool
  | .Starred .. => true
  | _ => false
def parV (vs : List Expr) : Bool := !(vs.any isStar) && !(vs.all (foldedForSure 8)) && !(vs.all (constantsAlone 8))
def rPar (c : RCx) (is : List Nat) (ts vs : List Expr) : Bool := match is, ts, vs with
  | [i, j], [.Name x px, .Name y py], [_, _] => decide (c.N[i]? = some x) && decide (c.N[j]? = some y) && isLoc c x && isLoc c y && (py.line == px.line) && decide (i ≠ j) && decide (x ≠ y)
  | [i, j, k], [.Name x px, .Name y py, .Name z pz], [_, _, _] => decide (c.N[i]? = some x) && decide (c.N[j]? = some y) && decide (c.N[k]? = some z) && isLoc c x && isLoc c y && isLoc c z && (py.line == px.line) && (pz.line == px.line) &&
      (decide (i ≠ j) && decide (i ≠ k) && decide (j ≠ k)) && (decide (x ≠ y) && decide (x ≠ z) && decide (y ≠ z))
  | _, _, _ => false
def rAsg (c : RCx) (tg : Tg) (m : E) : Stmt → Bool
  | .Assign [t] e _ => rTg c tg t && rE c m e && (plainA c t e || swA c tg t e)
  | _ => false
def rParS (c : RCx) (is : List Nat) (ms : Es) : Stmt → Bool
  | .Assign [.Tuple ts _ _] (.Tuple vs _ _) _ => rPar c is ts vs && parV vs && rEs c ms vs && decide (c.sc.kind = .function)
  | _ => false
def rSetix (c : RCx) (o i m : E) : Stmt → Bool
  | .Assign [.Subscript o' i' _] e _ => rE c m e && rE c o o' && rE c i i'
  | _ => false
def rRaise (m : E) : Stmt → Bool
  | .Raise _ _ _ => match m with
    | .str _ => true
    | _ => false
  | _ => false
mutual
def rS (c : RCx) : S → Stmt → Bool
  | .asg tg m, s => rAsg c tg m s
  | .par is ms, s => rParS c is ms s
  | .setix o i m, s => rSetix c o i m s
  | .raise_ _ m, s => rRaise m s
  | .aug i o m, .AugAssign (.Name x _) p e _ => opE o p && decide (c.N[i]? = some x) && isLoc c x && rE c m e
  | .augix o i op m, .AugAssign (.Subscript o' i' _) p e _ => opE op p && rE c o o' && rE c i i' && rE c m e
  | .ex m, .Expr e _ => rE c m e && notComp e
  | .ret m, .Return (some e) _ => rE c m e
  | .ret0, .Return none _ => true
  | .ife m a b, .If e a' b' _ => rE c m e && !(isIf e) && rSs c a a' && rSs c b b'
  | .for_ tg it b, .For t e b' [] _ => rTg c tg t && rIt c it e && rSs c b b'
  | .while_ m b, .While e b' [] _ => rE c m e && !(isIf e) && rSs c b b'
  | .brk, .Break _ => true
  | .pass, .Pass _ => true
  | _, _ => false
def rSs (c : RCx) : Ss → List Stmt → Bool
  | .nil, [] => true
  | .cons m ms, s :: ss => rS c m s && rSs c ms ss
  | _, _ => false
end
/-! ### what the text's side questions answer -/
theorem sw_none {e : Expr} (h : notComp e = true) {t : Option Expr} {l : Nat} {env : PySem.Env} : swapsWith e t l env = pure false := by
  cases e <;> first | rfl | cases h
theorem sw_plain {c : RCx} {X : Cx} (h : XN c X) {t e : Expr} (r : plainA c t e = true) {l : Nat} : swapsWithSole [t] e l X.env = pure false ∧ swappedStores [t] e X.env = pure none ∧ (assignEach [t] X.env).map (·.2) = [assign t X.env] := by
  cases t <;> first | (simp [plainA] at r; done) | skip
  · rename_i x p
    refine ⟨?_, by cases e <;> rfl, rfl⟩
    by_cases hn : notComp e = true
    · exact (sw_none hn : swapsWith e (some (.Name x p)) l X.env = pure false)
    · have r : (notComp e || !(isLoc c x) || !(p.line == e.pos.line)) = true := r
      have r : (!(isLoc c x) || !(p.line == e.pos.line)) = true := by
        cases q : notComp e with
        | true => exact absurd q hn
        | false =>
          rw [q] at r
          exact r
      have key : (X.env.kindOf x == some .local && p.line == e.pos.line) = false := by
        rcases Bool.or_eq_true_iff.mp r with r | r
        · have q : isLoc c x = false := by simpa using r
          have q2 : ¬ (X.env.scope.names.lookup x = some .local) := by
            rw [h.sc]
            exact of_decide_eq_false q
          have q3 : (X.env.kindOf x == some .local) = false := beq_eq_false_iff_ne.mpr q2
          rw [q3]
          rfl
        · have q : (p.line == e.pos.line) = false := by simpa using r
          rw [q, Bool.and_false]
      show swapsWith e (some (.Name x p)) l X.env = pure false
      cases e <;> first | exact absurd rfl hn | skip
      all_goals
        unfold swapsWith
        simp only
        show (pure (X.env.blockKind == .function && X.env.kindOf x == some .local && p.line == _ && _) : Sem Bool) = _
        rw [Bool.and_assoc (X.env.blockKind == .function), key, Bool.and_false, Bool.false_and]
  · rename_i es k p
    refine ⟨?_, ?_, rfl⟩
    · cases e <;> rfl
    · cases e <;> first | rfl | skip
      rename_i vs k2 p2
      have r : (vs.all (foldedForSure 8) || !(es.length == 2 || es.length == 3)) = true := r
      unfold swappedStores
      simp only
      by_cases h1 : (!(es.length == 2 || es.length == 3) || vs.length != es.length || X.env.blockKind != .function) = true
      · rw [if_pos h1]
      · rw [if_neg h1]
        have h2 : vs.all (foldedForSure 8) = true := by
          cases q : vs.all (foldedForSure 8) with
          | true => rfl
          | false =>
            rw [q] at r
            have r : (!(es.length == 2 || es.length == 3)) = true := r
            rw [r] at h1
            exact absurd rfl h1
        rw [if_pos h2]
        split
        · rfl
        · split
          · rfl
          · rfl

theorem sw_par2 {c : RCx} {X : Cx} (h : XN c X) {x y : Str} {px py pt pt2 : Pos} {kt k2 : Nat} {a b : Expr} (hk : c.sc.kind = .function) (lx : isLoc c x = true) (ly : isLoc c y = true) (hp : (py.line == px.line) = true) (ne : x ≠ y) (r : parV [a, b] = true) :
    swappedStores [.Tuple [.Name x px, .Name y py] kt pt] (.Tuple [a, b] k2 pt2) X.env = pure (some [x, y]) := by
  obtain ⟨r, r3⟩ := ands (show (!([a, b].any isStar) && !([a, b].all (foldedForSure 8)) && !([a, b].all (constantsAlone 8))) = true from r)
  obtain ⟨r1, r2⟩ := ands r
  have r1 : [a, b].any isStar = false := by simpa only [Bool.not_eq_true'] using r1
  have r2 : [a, b].all (foldedForSure 8) = false := by simpa only [Bool.not_eq_true'] using r2
  have r3 : [a, b].all (constantsAlone 8) = false := by simpa only [Bool.not_eq_true'] using r3
  have bk : (X.env.blockKind != .function) = false := by
    have e : X.env.blockKind = .function := by unfold PySem.Env.blockKind; rw [h.sc, hk]; rfl
    rw [e]; rfl
  have kx : (X.env.kindOf x == some NameKind.local) = true := beq_iff_eq.mpr (by
    show X.env.scope.names.lookup x = _
    rw [h.sc]
    exact of_decide_eq_true lx)
  have ky : (X.env.kindOf y == some NameKind.local) = true := beq_iff_eq.mpr (by
    show X.env.scope.names.lookup y = _
    rw [h.sc]
    exact of_decide_eq_true ly)
  have pp : (px.line == px.line) = true := beq_self_eq_true _
  have nb : (y == x) = false := beq_eq_false_iff_ne.mpr (Ne.symm ne)
  unfold swappedStores
  simp only [List.length_cons, List.length_nil, bk, r2, r3, List.head?_cons, Option.map_some, Option.getD_some, Expr.pos, List.filterMap_cons, List.filterMap_nil, kx, ky, pp, hp, Bool.and_true, Bool.and_self, if_true, List.eraseDups_cons, List.filter_cons, nb, List.filter_nil, List.eraseDups_nil, Bool.not_false]
  refine (if_neg (by decide)).trans ((if_neg fun z => ?_).trans ((if_neg (by decide)).trans rfl))
  have z : [a, b].any isStar = true := z
  rw [r1] at z
  cases z
theorem sw_par3 {c : RCx} {X : Cx} (h : XN c X) {x y z : Str} {px py pz pt pt2 : Pos} {kt k2 : Nat} {a b d : Expr} (hk : c.sc.kind = .function) (lx : isLoc c x = true) (ly : isLoc c y = true) (lz : isLoc c z = true) (hp : (py.line == px.line) = true) (hp2 : (pz.line == px.line) = true) (ne : x ≠ y) (ne2 : x ≠ z) (ne3 : y ≠ z) (r : parV [a, b, d] = true) :
    swappedStores [.Tuple [.Name x px, .Name y py, .Name z pz] kt pt] (.Tuple [a, b, d] k2 pt2) X.env = pure (some [x, y, z]) := by
  obtain ⟨r, r3⟩ := ands (show (!([a, b, d].any isStar) && !([a, b, d].all (foldedForSure 8)) && !([a, b, d].all (constantsAlone 8))) = true from r)
  obtain ⟨r1, r2⟩ := ands r
  have r1 : [a, b, d].any isStar = false := by simpa only [Bool.not_eq_true'] using r1
  have r2 : [a, b, d].all (foldedForSure 8) = false := by simpa only [Bool.not_eq_true'] using r2
  have r3 : [a, b, d].all (constantsAlone 8) = false := by simpa only [Bool.not_eq_true'] using r3
  have bk : (X.env.blockKind != .function) = false := by
    have e : X.env.blockKind = .function := by unfold PySem.Env.blockKind; rw [h.sc, hk]; rfl
    rw [e]; rfl
  have kl : ∀ w, isLoc c w = true → (X.env.kindOf w == some NameKind.local) = true := fun w q => beq_iff_eq.mpr (by
    show X.env.scope.names.lookup w = _
    rw [h.sc]
    exact of_decide_eq_true q)
  have kx := kl x lx
  have ky := kl y ly
  have kz := kl z lz
  have pp : (px.line == px.line) = true := beq_self_eq_true _
  have nb : (y == x) = false := beq_eq_false_iff_ne.mpr (Ne.symm ne)
  have nb2 : (z == x) = false := beq_eq_false_iff_ne.mpr (Ne.symm ne2)
  have nb3 : (z == y) = false := beq_eq_false_iff_ne.mpr (Ne.symm ne3)
  unfold swappedStores
  simp only [List.length_cons, List.length_nil, bk, r2, r3, List.head?_cons, Option.map_some, Option.getD_some, Expr.pos, List.filterMap_cons, List.filterMap_nil, kx, ky, kz, pp, hp, hp2, Bool.and_true, Bool.and_self, if_true, List.eraseDups_cons, List.filter_cons, nb, nb2, nb3, List.filter_nil, List.eraseDups_nil, Bool.not_false]
  refine (if_neg (by decide)).trans ((if_neg fun z => ?_).trans ((if_neg (by decide)).trans rfl))
  have z : [a, b, d].any isStar = true := z
  rw [r1] at z
  cases z
/-! ### blocks -/
structure EnOk (F : Addr → Prop) (X : Cx) (gv : GV) (st : Store) (H : Hp) (R : En) (D : Ends) : Prop where
  nx : ∀ ρ' st' σ' H', R.nx ρ' st' → Ext st H st' H' → RS F X.K gv H' st' → RE F X.K gv H' st' ρ' σ' → D.nx σ' H'
  bk : ∀ ρ' st' σ' H', R.bk ρ' st' → Ext st H st' H' → RS F X.K gv H' st' → RE F X.K gv H' st' ρ' σ' → D.bk σ' H'
  rt : Pst F X gv st H R.rt D.rt
theorem EnOk.step {F : Addr → Prop} {X : Cx} {st st1 : Store} {H H1 : Hp} {R : En} {D : Ends} (h : EnOk F X gv st H R D) (x : Ext st H st1 H1) : EnOk F X gv st1 H1 R D where
  nx := fun ρ' st' σ' H' q y => h.nx ρ' st' σ' H' q (x.trans y)
  bk := fun ρ' st' σ' H' q y => h.bk ρ' st' σ' H' q (x.trans y)
  rt := fun d st' v H' q y => h.rt d st' v H' q (x.trans y)
def tS_ (G : Pg) (gv : GV) (n : Nat) (X : Cx) (m : S) : TS := fun D σ H => ∃ F ρ st R, RE F X.K gv H st ρ σ ∧ RS F X.K gv H st ∧ wS (ctxN G n) m ρ st noX R ∧ EnOk F X gv st H R D
def tSs (G : Pg) (gv : GV) (n : Nat) (X : Cx) (m : Ss) : TS := fun D σ H => ∃ F ρ st R, RE F X.K gv H st ρ σ ∧ RS F X.K gv H st ∧ wSs (ctxN G n) m ρ st noX R ∧ EnOk F X gv st H R D
theorem PS.weak {X : Cx} {s : Stmt} {t t' : TS} (h : PS X s t) (w : ∀ D σ H, t' D σ H → t D σ H) : PS X s t' := ⟨fun pins s σ H D I q => h.run pins s σ H D I (w D σ H q)⟩
theorem PSs.weak {X : Cx} {s : List Stmt} {t t' : TS} (h : PSs X s t) (w : ∀ D σ H, t' D σ H → t D σ H) : PSs X s t' := ⟨fun pins s σ H D I q => h.run pins s σ H D I (w D σ H q)⟩
abbrev Own (X : Cx) : Prop := PassesOwn (model X.prog X.w) X.A X.env X.xe
/-- a for's turns -/
theorem for_read {X : Cx} {tg : Tg} {it : It} {b : Ss} {D : Ends} {σ : L2.St} {H : Hp} (hq : tS_ G gv n X (.for_ tg it b) D σ H) : tFor (tI G gv n X it) (gTg X gv tg) (tSs G gv n X b) D σ H := by
  obtain ⟨F, ρ, st, R, re, rs, w, p⟩ := hq
  refine ⟨F, ρ, st, _, re, rs, w, fun items g st1 J H1 q1 x1 rs1 jok => ?_⟩
  refine ⟨fun i m σ2 H2 => ∃ st2 ρ2, Ext st1 H1 st2 H2 ∧ RS F X.K gv H2 st2 ∧ RE F X.K gv H2 st2 ρ2 σ2 ∧ m = items.length - i ∧ i ≤ items.length ∧ forW g tg (fun ρ st R => wSs (ctxN G n) b ρ st noX R) (items.drop i) ρ2 st2 R,
    ⟨items.length, st1, ρ, Ext.refl, rs1, re.mono rs x1.f, rfl, Nat.zero_le _, q1⟩, fun i m σ2 H2 hW => ?_⟩
  obtain ⟨st2, ρ2, x2, rs2, re2, hm, hi, w2⟩ := hW
  have hF : ∀ a, F a → F a ∨ H1 a = none := fun a h => .inl h
  by_cases hlt : i < items.length
  · have ed : items.drop i = items[i] :: items.drop (i + 1) := List.drop_eq_getElem_cons hlt
    rw [ed] at w2
    obtain ⟨hg, w2⟩ := w2
    refine .inr ⟨jok.go _ i st2 H2 hF x2.f rs2 hg hlt, _, fun σ' H' h => h, fun x H3 hy => ?_⟩
    obtain ⟨x3, rs3, d, ed2, rd3⟩ := jok.yld _ i st2 H2 x H3 hF x2.f rs2 hg hlt hy
    rw [List.getElem?_eq_getElem hlt] at ed2
    cases ed2
    refine ⟨F, ρ2, st2, _, _, re2.mono rs2 x3.f, rs3, rd3, w2, fun ρ' st3 σ' H4 q4 x4 rs4 re4 _ => ⟨F, ρ', st3, _, re4, rs4, q4, ?_, ?_, ?_⟩⟩
    · exact fun ρ5 st5 σ5 H5 q5 x5 rs5 re5 => ⟨items.length - (i + 1), by omega, st5, ρ5, ((x2.trans x3).trans x4).trans x5, rs5, re5, rfl, hlt, q5⟩
    · exact fun ρ5 st5 σ5 H5 q5 x5 rs5 re5 => p.nx ρ5 st5 σ5 H5 q5 (x1.trans (((x2.trans x3).trans x4).trans x5)) rs5 re5
    · exact fun d st5 v H5 q5 x5 rs5 rd5 => p.rt d st5 v H5 q5 (x1.trans (((x2.trans x3).trans x4).trans x5)) rs5 rd5
  · have ed : items.drop i = [] := List.drop_eq_nil_of_le (by omega)
    rw [ed] at w2
    obtain ⟨hg, w2⟩ := w2
    exact .inl ⟨jok.stop _ i st2 H2 hF x2.f rs2 hg (by omega), p.nx ρ2 st2 σ2 H2 w2 (x1.trans x2) rs2 re2⟩
/-- a while's turns -/
theorem while_read {X : Cx} {m : E} {b : Ss} {D : Ends} {σ : L2.St} {H : Hp} (hq : tS_ G gv n X (.while_ m b) D σ H) : tWhile (tT G gv n X m) (tSs G gv n X b) D σ H := by
  obtain ⟨F, ρ, st, R, re, rs, ⟨W, ⟨k0, w0⟩, w⟩, p⟩ := hq
  refine ⟨fun k σ2 H2 => ∃ st2 ρ2, Ext st H st2 H2 ∧ RS F X.K gv H2 st2 ∧ RE F X.K gv H2 st2 ρ2 σ2 ∧ W k ρ2 st2, ⟨k0, st, ρ, Ext.refl, rs, re, w0⟩, fun k σ2 H2 hW => ?_⟩
  obtain ⟨st2, ρ2, x2, rs2, re2, w2⟩ := hW
  refine ⟨F, ρ2, st2, _, re2, rs2, w k ρ2 st2 w2, fun d st3 H3 q3 x3 rs3 => ?_⟩
  cases d <;> first | exact q3.elim | skip
  rename_i v
  refine ⟨v, rfl, ?_⟩
  cases v with
  | true =>
    refine ⟨_, fun σ' H' h => h, F, ρ2, st3, _, re2.mono rs2 x3.f, rs3, q3, ?_, ?_, ?_⟩
    · exact fun ρ5 st5 σ5 H5 ⟨k', hk, q5⟩ x5 rs5 re5 => ⟨k', hk, st5, ρ5, (x2.trans x3).trans x5, rs5, re5, q5⟩
    · exact fun ρ5 st5 σ5 H5 q5 x5 rs5 re5 => p.nx ρ5 st5 σ5 H5 q5 ((x2.trans x3).trans x5) rs5 re5
    · exact fun d st5 v H5 q5 x5 rs5 rd5 => p.rt d st5 v H5 q5 ((x2.trans x3).trans x5) rs5 rd5
  | false => exact p.nx ρ2 st3 σ2 H3 q3 (x2.trans x3) rs3 (re2.mono rs2 x3.f)
end Mi
/-! ## M11: the simulation of statements: one induction -/
namespace Mi
open PySem PySem.Spec PyProof.Rows L2
variable {G : Pg} {gv : GV} {n : Nat}
theorem isLoc_ok {c : RCx} {X : Cx} (h : XN c X) {x : Str} (r : isLoc c x = true) : X.env.scope.names.lookup x = some .local := by
  rw [h.sc]
  exact of_decide_eq_true r
/-- what an assignment reads -/
theorem asg_read {X : Cx} {tg : Tg} {m : E} {D : Ends} {σ : L2.St} {H : Hp} (hq : tS_ G gv n X (.asg tg m) D σ H) : tAsg (tE G gv n X m) (gTg X gv tg) D σ H := by
  obtain ⟨F, ρ, st, R, re, rs, w, p⟩ := hq
  refine ⟨F, ρ, st, _, re, rs, w, fun d st1 v H1 q1 x1 rs1 rd1 => ?_⟩
  exact ⟨F, ρ, st1, d, _, re.mono rs x1.f, rs1, rd1, q1, fun ρ' st2 σ' H2 q2 x2 rs2 re2 _ => p.nx ρ' st2 σ' H2 q2 (x1.trans x2) rs2 re2⟩
theorem asgN_read {X : Cx} {i : Nat} {m : E} {D : Ends} {σ : L2.St} {H : Hp} (hq : tS_ G gv n X (.asg (.name i) m) D σ H) : tAsg (tE G gv n X m) (gName i) D σ H := by
  obtain ⟨F, ρ, st, R, re, rs, w, p⟩ := hq
  refine ⟨F, ρ, st, _, re, rs, w, fun d st1 v H1 q1 x1 rs1 rd1 => ?_⟩
  exact p.nx _ st1 _ H1 q1 x1 rs1 ((re.mono rs x1.f).sv rd1)
theorem par_read {X : Cx} {is : List Nat} {ms : Es} {D : Ends} {σ : L2.St} {H : Hp} (hq : tS_ G gv n X (.par is ms) D σ H) :
    tL G gv n X ms σ H fun vs H1 => vs.length = is.length ∧ D.nx (Mi.setAll is vs σ) H1 := by
  obtain ⟨F, ρ, st, R, re, rs, w, p⟩ := hq
  refine ⟨F, ρ, st, _, re, rs, w, fun ds st1 vs H1 q1 x1 rs1 rd1 hl => ?_⟩
  obtain ⟨ρ', e, q⟩ := q1
  exact ⟨by rw [← rd1.length]; exact stores_len e, p.nx _ st1 _ H1 q x1 rs1 (RE.setAll e rd1 (re.mono rs x1.f))⟩
theorem tL_mono {X : Cx} {ms : Es} {σ : L2.St} {H : Hp} {Q Q2 : List V → Hp → Prop} (h : tL G gv n X ms σ H Q) (w : ∀ vs H1, Q vs H1 → Q2 vs H1) : tL G gv n X ms σ H Q2 := by
  obtain ⟨F, ρ, st, Q', re, rs, h, p⟩ := h
  exact ⟨F, ρ, st, Q', re, rs, h, fun ds st' vs H' q x rs' rd hl => w _ _ (p ds st' vs H' q x rs' rd hl)⟩
def isSlice : Expr → Bool
  | .Slice .. => true
  | _ => false
theorem rE_slice {c : RCx} {m : E} {e : Expr} (r : rE c m e = true) : isSlice e = false := by
  cases e <;> first | rfl | (cases m <;> (simp [rE] at r; done))
theorem assign_sub {o i : Expr} {X : Cx} {pos : Pos} (h : isSlice i = false) : ∀ v, assign (.Subscript o i pos) X.env v = (do
      let ov ← holding [v] (eval o X.env)
      let iv ← holding [v, ov] (eval i X.env)
      standAt pos
      holding [v, ov, iv] (setItem ov iv v)
      release [v, ov, iv] []) := by
  intro v
  cases i <;> first | rfl | cases h
theorem aug_sub {i : Expr} (h : isSlice i = false) : ∀ ov iv new, augStore i ov iv new = (do holding [new, ov, iv] (setItem ov iv new); release [new, ov, iv] []; pure .next) := by
  intro ov iv new
  cases i <;> first | rfl | cases h
theorem swA_inv {c : RCx} {tg : Tg} {t e : Expr} (r : swA c tg t e = true) : ∃ i y py elt gs scope p, tg = .name i ∧ t = .Name y py ∧ e = .ListComp elt gs scope p ∧ c.N[i]? = some y ∧ isLoc c y = true ∧ (py.line == p.line) = true ∧
    (scope.names.any fun (n, k) => n == y && (k == .local || k == .cell)) = false ∧ c.sc.kind = .function := by
  unfold swA at r
  split at r
  · rename_i i y py elt gs scope p
    obtain ⟨r3, j5⟩ := ands r
    obtain ⟨r3, j4⟩ := ands r3
    obtain ⟨r3, j3⟩ := ands r3
    obtain ⟨j1, j2⟩ := ands r3
    exact ⟨i, y, py, elt, gs, scope, p, rfl, rfl, rfl, of_decide_eq_true j1, j2, j3, by simpa only [Bool.not_eq_true'] using j4, of_decide_eq_true j5⟩
  · cases r
theorem rPar_inv {c : RCx} {is : List Nat} {ts vs : List Expr} (r : rPar c is ts vs = true) :
    (∃ i j x px y py a b, is = [i, j] ∧ ts = [.Name x px, .Name y py] ∧ vs = [a, b] ∧ c.N[i]? = some x ∧ c.N[j]? = some y ∧ isLoc c x = true ∧ isLoc c y = true ∧ (py.line == px.line) = true ∧ i ≠ j ∧ x ≠ y) ∨
    (∃ i j k x px y py z pz a b d, is = [i, j, k] ∧ ts = [.Name x px, .Name y py, .Name z pz] ∧ vs = [a, b, d] ∧ c.N[i]? = some x ∧ c.N[j]? = some y ∧ c.N[k]? = some z ∧ isLoc c x = true ∧ isLoc c y = true ∧ isLoc c z = true ∧
      (py.line == px.line) = true ∧ (pz.line == px.line) = true ∧ (i ≠ j ∧ i ≠ k ∧ j ≠ k) ∧ x ≠ y ∧ x ≠ z ∧ y ≠ z) := by
  unfold rPar at r
  split at r
  · rename_i i j x px y py a b
    obtain ⟨r, j7⟩ := ands r
    obtain ⟨r, j6⟩ := ands r
    obtain ⟨r, j5⟩ := ands r
    obtain ⟨r, j4⟩ := ands r
    obtain ⟨r, j3⟩ := ands r
    obtain ⟨j1, j2⟩ := ands r
    exact .inl ⟨i, j, x, px, y, py, a, b, rfl, rfl, rfl, of_decide_eq_true j1, of_decide_eq_true j2, j3, j4, j5, of_decide_eq_true j6, of_decide_eq_true j7⟩
  · rename_i i j k x px y py z pz a b d
    obtain ⟨r, j9⟩ := ands r
    obtain ⟨r, j8⟩ := ands r
    obtain ⟨r, j7b⟩ := ands r
    obtain ⟨r, j7⟩ := ands r
    obtain ⟨r, j6⟩ := ands r
    obtain ⟨r, j5⟩ := ands r
    obtain ⟨r, j4⟩ := ands r
    obtain ⟨r, j3⟩ := ands r
    obtain ⟨j1, j2⟩ := ands r
    obtain ⟨q1, q3⟩ := ands j8
    obtain ⟨q1, q2⟩ := ands q1
    obtain ⟨p1, p3⟩ := ands j9
    obtain ⟨p1, p2⟩ := ands p1
    exact .inr ⟨i, j, k, x, px, y, py, z, pz, a, b, d, rfl, rfl, rfl, of_decide_eq_true j1, of_decide_eq_true j2, of_decide_eq_true j3, j4, j5, j6, j7, j7b, ⟨of_decide_eq_true q1, of_decide_eq_true q2, of_decide_eq_true q3⟩, of_decide_eq_true p1, of_decide_eq_true p2, of_decide_eq_true p3⟩
  · cases r
theorem rS_asg {c : RCx} {tg : Tg} {m : E} {s : Stmt} (r : rAsg c tg m s = true) : ∃ t e pos, s = .Assign [t] e pos ∧ rTg c tg t = true ∧ rE c m e = true ∧ (plainA c t e || swA c tg t e) = true := by
  unfold rAsg at r
  split at r
  · obtain ⟨r, r3⟩ := ands r
    obtain ⟨r1, r2⟩ := ands r
    exact ⟨_, _, _, rfl, r1, r2, r3⟩
  · cases r
theorem rS_par {c : RCx} {is : List Nat} {ms : Es} {s : Stmt} (r : rParS c is ms s = true) : ∃ ts kt pt vs k2 pt2 pos, s = .Assign [.Tuple ts kt pt] (.Tuple vs k2 pt2) pos ∧ rPar c is ts vs = true ∧ parV vs = true ∧ rEs c ms vs = true ∧ decide (c.sc.kind = .function) = true := by
  unfold rParS at r
  split at r
  · obtain ⟨r, r4⟩ := ands r
    obtain ⟨r, r3⟩ := ands r
    obtain ⟨r1, r2⟩ := ands r
    exact ⟨_, _, _, _, _, _, _, rfl, r1, r2, r3, r4⟩
  · cases r
theorem rS_setix {c : RCx} {o1 i m : E} {s : Stmt} (r : rSetix c o1 i m s = true) : ∃ o' i' sp e pos, s = .Assign [.Subscript o' i' sp] e pos ∧ rE c m e = true ∧ rE c o1 o' = true ∧ rE c i i' = true := by
  unfold rSetix at r
  split at r
  · obtain ⟨r, r3⟩ := ands r
    obtain ⟨r1, r2⟩ := ands r
    exact ⟨_, _, _, _, _, rfl, r1, r2, r3⟩
  · cases r
theorem rS_raise {m : E} {s : Stmt} (r : rRaise m s = true) : ∃ x, m = .str x := by
  unfold rRaise at r
  split at r
  · split at r
    · exact ⟨_, rfl⟩
    · cases r
  · cases r
mutual
theorem simS : ∀ (m : S) (c : RCx) (X : Cx) (s : Stmt), XG G gv n c X → Own X → rS c m s = true → PS X s (tS_ G gv n X m)
  | .asg tg m, c, X, s, h, o, r => by
    obtain ⟨t, e, pos, e0, r1, r2, r3⟩ := rS_asg (show rAsg c tg m s = true from r)
    subst e0
    rcases Bool.or_eq_true_iff.mp r3 with r3 | r3
    · obtain ⟨k1, k2, k3⟩ := sw_plain h.xn r3 (l := pos.line)
      exact PS.weak (ps_asg (simE m c X e h r2).1 (PG.exF fun F => pg_tg (F := F) (gv := gv) h.xn r1) k1 k2 k3) fun D σ H q => asg_read q
    · obtain ⟨i, y, py, elt, gs, scope, lp, e1, e2, e3, j1, j2, j3, j4, j5⟩ := swA_inv r3
      subst e1 e2 e3
      cases m <;> first | (simp [rE] at r2; done) | (cases gs <;> (simp [rE] at r2; done)) | skip
      rename_i fr elt0 tg0 it0 t0 own0
      rcases gs with _ | ⟨⟨tg', it', ifs', asy⟩, _ | ⟨_, _⟩⟩ <;> first | (simp [rE] at r2; done) | skip
      obtain ⟨r, r6⟩ := ands (show (decide (asy = 0) && rIt c it0 it' && blkC c.N c.sc scope (ownOf c own0) && rTg (c.blk scope) tg0 tg' && rCs (c.blk scope) t0 ifs' && rE (c.blk scope) elt0 elt && (tgIx tg0).all (own0.contains ·)) = true from r2)
      obtain ⟨r, r5⟩ := ands r
      obtain ⟨r, r4⟩ := ands r
      obtain ⟨r, k3⟩ := ands r
      obtain ⟨r, k2⟩ := ands r
      obtain ⟨r0, r1'⟩ := ands r
      have e0 := of_decide_eq_true r0
      subst e0
      have ok : BlkOk X.N X.env.scope scope (ownOf c own0) := by
        rw [h.xn.N, h.xn.sc]
        exact blkOk_by k2
      have lc := isLoc_ok h.xn j2
      have pe := ps_setLc (te := tE G gv n X elt0) (tt := tC_ G gv n X t0) (g := gTg X gv tg0) (wi := tI G gv n X it0) (spos := pos) (pos := lp) (py := py) (i := i) (y := y) h.xn.calm h.xn.nd (by rw [h.xn.N]; exact j1) lc
        (sw_true (by rw [h.xn.sc]; exact j5) lc j3 j4) (simI it0 c X tg' it' h r1') ok
        (fun s H C cl fp => PG.exF (r := fun F => tTg F X gv tg0) fun F => show PG _ tg' (tTg F X gv tg0) from pg_tg (F := F) (gv := gv) (h.blk k2 s H C cl fp).xn k3)
        (fun s H C cl fp => simC t0 _ _ ifs' (h.blk k2 s H C cl fp) r4) (fun s H C cl fp => (simE elt0 _ _ elt (h.blk k2 s H C cl fp) r5).1) (rIt_fold r1')
      rw [own_eq] at pe
      exact PS.weak pe fun D σ H q => lc_read (fun i hi => by simpa using List.all_eq_true.mp r6 i hi) σ H _ (asgN_read q)
  | .par is ms, c, X, s, h, o, r => by
    obtain ⟨ts, kt, pt, vs, k2, pt2, pos, e0, r1, r2, r3, r4⟩ := rS_par (show rParS c is ms s = true from r)
    subst e0
    have hk := of_decide_eq_true r4
    have pa := simL ms c X vs h r3
    rcases rPar_inv r1 with ⟨i, j, x, px, y, py, a, b, e1, e2, e3, j1, j2, j3, j4, j5, j6, j7⟩ | ⟨i, j, k, x, px, y, py, z, pz, a, b, d, e1, e2, e3, j1, j2, j3, j4, j5, j6, j7, j7b, ⟨q1, q2, q3⟩, p1, p2, p3⟩
    · subst e1 e2 e3
      refine PS.weak (ps_par (i := i) (j := j) h.xn.calm h.xn.nd (by rw [h.xn.N]; exact j1) (by rw [h.xn.N]; exact j2) j6 (isLoc_ok h.xn j3) (isLoc_ok h.xn j4) pa (sw_par2 h.xn hk j3 j4 j5 j7 r2)) fun D σ H q => ?_
      refine tL_mono (par_read q) fun vs H1 ⟨hl, q⟩ => ?_
      rcases vs with _ | ⟨u, _ | ⟨v, _ | ⟨_, _⟩⟩⟩ <;> first | (simp at hl; done) | skip
      exact ⟨u, v, rfl, q⟩
    · subst e1 e2 e3
      refine PS.weak (ps_par3 (i := i) (j := j) (l := k) h.xn.calm h.xn.nd (by rw [h.xn.N]; exact j1) (by rw [h.xn.N]; exact j2) (by rw [h.xn.N]; exact j3) q1 q2 q3
        (isLoc_ok h.xn j4) (isLoc_ok h.xn j5) (isLoc_ok h.xn j6) pa (sw_par3 h.xn hk j4 j5 j6 j7 j7b p1 p2 p3 r2)) fun D σ H q => ?_
      refine tL_mono (par_read q) fun vs H1 ⟨hl, q⟩ => ?_
      rcases vs with _ | ⟨u, _ | ⟨v, _ | ⟨w, _ | ⟨_, _⟩⟩⟩⟩ <;> first | (simp at hl; done) | skip
      exact ⟨u, v, w, rfl, q⟩
  | .setix o1 i m, c, X, s, h, o, r => by
    obtain ⟨o', i', sp, e, pos, e0, r1, r2, r3⟩ := rS_setix (show rSetix c o1 i m s = true from r)
    subst e0
    refine PS.weak (ps_asg (simE m c X e h r1).1 (pg_sub (simE o1 c X o' h r2).1 (simE i c X i' h r3).1 (PSet.exF fun F => psetM (F := F) (gv := gv)) (assign_sub (rE_slice r3))) (by cases e <;> rfl) (by cases e <;> rfl)) fun D σ H ⟨F, ρ, st, R, re, rs, w, p⟩ => ?_
    refine ⟨F, ρ, st, _, re, rs, w, fun dx st1 v H1 q1 x1 rs1 rd1 => ?_⟩
    refine ⟨F, ρ, st1, _, re.mono rs x1.f, rs1, q1, fun dob st2 ov H2 q2 x2 rs2 rd2 => ?_⟩
    refine ⟨F, ρ, st2, _, (re.mono rs x1.f).mono rs1 x2.f, rs2, q2, fun di st3 iv H3 q3 x3 rs3 rd3 => ?_⟩
    exact ⟨F, st3, dob, di, dx, _, rs3, rd2.mono rs2 x3.f, rd3, (rd1.mono rs1 x2.f).mono rs2 x3.f, q3, fun st4 H4 q4 x4 rs4 =>
      p.nx ρ st4 σ H4 q4 (((x1.trans x2).trans x3).trans x4) rs4 (re.mono rs (((x1.trans x2).trans x3).trans x4).f)⟩
  | .aug i op m, c, X, s, h, o, r => by
    cases s <;> first | (simp [rS] at r; done) | skip
    rename_i t p e pos
    cases t <;> first | (simp [rS] at r; done) | skip
    rename_i x xp
    obtain ⟨r, r4⟩ := ands (show (opE op p && decide (c.N[i]? = some x) && isLoc c x && rE c m e) = true from r)
    obtain ⟨r, r3⟩ := ands r
    obtain ⟨r1, r2⟩ := ands r
    have e1 := of_decide_eq_true r1
    subst e1
    have lc := isLoc_ok h.xn r3
    refine PS.weak (ps_aug (i := i) h.xn.nd (by rw [h.xn.N]; exact of_decide_eq_true r2) (.inl lc) (simE m c X e h r4).1 (PIp.exF fun F => augr (F := F) (gv := gv) op) (.inr lc)) fun D σ H ⟨F, ρ, st, R, re, rs, w, p⟩ => ?_
    obtain ⟨x0, e0, w⟩ := w
    obtain ⟨v0, ev, rd0⟩ := re.get e0
    refine ⟨v0, ev, F, ρ, st, _, re, rs, w, fun dy st1 vy H1 q1 x1 rs1 rd1 => ?_⟩
    exact ⟨F, st1, x0, dy, _, rs1, rd0.mono rs x1.f, rd1, q1, fun dz st2 vz H2 q2 x2 rs2 rd2 => p.nx _ st2 _ H2 q2 (x1.trans x2) rs2 ((re.mono rs (x1.trans x2).f).sv rd2)⟩
  | .augix o1 i op m, c, X, s, h, o, r => by
    cases s <;> first | (simp [rS] at r; done) | skip
    rename_i t p e pos
    cases t <;> first | (simp [rS] at r; done) | skip
    rename_i o' i' xp
    obtain ⟨r, r4⟩ := ands (show (opE op p && rE c o1 o' && rE c i i' && rE c m e) = true from r)
    obtain ⟨r, r3⟩ := ands r
    obtain ⟨r1, r2⟩ := ands r
    have e1 := of_decide_eq_true r1
    subst e1
    refine PS.weak (ps_augS (simE o1 c X o' h r2).1 (simE i c X i' h r3).1 (PGet.exF fun F => pgetM (F := F) (gv := gv)) (simE m c X e h r4).1 (PIp.exF fun F => augr (F := F) (gv := gv) op) (PSet.exF fun F => psetM (F := F) (gv := gv)) (aug_sub (rE_slice r3))) fun D σ H ⟨F, ρ, st, R, re, rs, w, p⟩ => ?_
    refine ⟨F, ρ, st, _, re, rs, w, fun dob st1 ov H1 q1 x1 rs1 rd1 => ?_⟩
    refine ⟨F, ρ, st1, _, re.mono rs x1.f, rs1, q1, fun di st2 iv H2 q2 x2 rs2 rd2 => ?_⟩
    refine ⟨F, st2, dob, di, _, rs2, rd1.mono rs1 x2.f, rd2, q2, fun dx st3 xv H3 q3 x3 rs3 rd3 => ?_⟩
    have x13 := (x1.trans x2).trans x3
    refine ⟨F, ρ, st3, _, re.mono rs x13.f, rs3, q3, fun dy st4 yv H4 q4 x4 rs4 rd4 => ?_⟩
    refine ⟨F, st4, dx, dy, _, rs4, rd3.mono rs3 x4.f, rd4, q4, fun dz st5 zv H5 q5 x5 rs5 rd5 => ?_⟩
    have x15 := (x13.trans x4).trans x5
    refine ⟨F, st5, dob, di, dz, _, rs5, rd1.mono rs1 (((x2.trans x3).trans x4).trans x5).f, rd2.mono rs2 ((x3.trans x4).trans x5).f, rd5, q5, fun st6 H6 q6 x6 rs6 => ?_⟩
    exact p.nx ρ st6 σ H6 q6 (x15.trans x6) rs6 (re.mono rs (x15.trans x6).f)
  | .ex m, c, X, s, h, o, r => by
    cases s <;> first | (simp [rS] at r; done) | skip
    rename_i e pos
    obtain ⟨r1, r2⟩ := ands (show (rE c m e && notComp e) = true from r)
    refine PS.weak (ps_expr (simE m c X e h r1).1 (sw_none r2)) fun D σ H ⟨F, ρ, st, R, re, rs, w, p⟩ => ?_
    exact ⟨F, ρ, st, _, re, rs, w, fun d st1 v H1 q1 x1 rs1 rd1 => p.nx ρ st1 σ H1 q1 x1 rs1 (re.mono rs x1.f)⟩
  | .ret m, c, X, s, h, o, r => by
    cases s <;> first | (simp [rS] at r; done) | skip
    rename_i e pos
    cases e <;> first | (simp [rS] at r; done) | skip
    rename_i e
    refine PS.weak (ps_ret (simE m c X e h r).1) fun D σ H ⟨F, ρ, st, R, re, rs, w, p⟩ => ?_
    exact ⟨F, ρ, st, _, re, rs, w, p.rt⟩
  | .ret0, c, X, s, h, o, r => by
    cases s <;> first | (simp [rS] at r; done) | skip
    rename_i e pos
    cases e <;> first | (simp [rS] at r; done) | skip
    exact PS.weak ps_retN fun D σ H ⟨F, ρ, st, R, re, rs, w, p⟩ => p.rt.here rs w .non
  | .ife m a b, c, X, s, h, o, r => by
    cases s <;> first | (simp [rS] at r; done) | skip
    rename_i e a' b' pos
    obtain ⟨r, r4⟩ := ands (show (rE c m e && !(isIf e) && rSs c a a' && rSs c b b') = true from r)
    obtain ⟨r, r3⟩ := ands r
    obtain ⟨r1, r2⟩ := ands r
    refine PS.weak (ps_if ((simE m c X e h r1).2 (by simpa using r2)) (simSs a c X a' h o r3) (simSs b c X b' h o r4)) fun D σ H ⟨F, ρ, st, R, re, rs, w, p⟩ => ?_
    refine ⟨F, ρ, st, _, re, rs, w, fun d st1 H1 q1 x1 rs1 => ?_⟩
    cases d <;> first | exact q1.elim | skip
    rename_i k
    refine ⟨k, rfl, ?_⟩
    cases k with
    | true => exact ⟨F, ρ, st1, R, re.mono rs x1.f, rs1, q1, p.step x1⟩
    | false => exact ⟨F, ρ, st1, R, re.mono rs x1.f, rs1, q1, p.step x1⟩
  | .for_ tg it b, c, X, s, h, o, r => by
    cases s <;> first | (simp [rS] at r; done) | skip
    rename_i t e b' els pos
    cases els <;> first | (simp [rS] at r; done) | skip
    obtain ⟨r, r3⟩ := ands (show (rTg c tg t && rIt c it e && rSs c b b') = true from r)
    obtain ⟨r1, r2⟩ := ands r
    exact PS.weak (ps_for o h.xn.calm (simI it c X t e h r2) (PG.exF fun F => pg_tg (F := F) (gv := gv) h.xn r1) (simSs b c X b' h o r3) (rIt_fold r2)) fun D σ H q => for_read q
  | .while_ m b, c, X, s, h, o, r => by
    cases s <;> first | (simp [rS] at r; done) | skip
    rename_i e b' els pos
    cases els <;> first | (simp [rS] at r; done) | skip
    obtain ⟨r, r3⟩ := ands (show (rE c m e && !(isIf e) && rSs c b b') = true from r)
    obtain ⟨r1, r2⟩ := ands r
    exact PS.weak (ps_while o ((simE m c X e h r1).2 (by simpa using r2)) (simSs b c X b' h o r3)) fun D σ H q => while_read q
  | .brk, c, X, s, h, o, r => by
    cases s <;> first | (simp [rS] at r; done) | skip
    exact PS.weak ps_break fun D σ H ⟨F, ρ, st, R, re, rs, w, p⟩ => p.bk ρ st σ H w Ext.refl rs re
  | .pass, c, X, s, h, o, r => by
    cases s <;> first | (simp [rS] at r; done) | skip
    exact PS.weak ps_pass fun D σ H ⟨F, ρ, st, R, re, rs, w, p⟩ => p.nx ρ st σ H w Ext.refl rs re
  | .raise_ cls m, c, X, s, h, o, r => by
    obtain ⟨x, e0⟩ := rS_raise (show rRaise m s = true from r)
    subst e0
    exact PS.weak ps_never fun D σ H ⟨F, ρ, st, R, re, rs, w, p⟩ => False.elim w
theorem simSs : ∀ (ms : Ss) (c : RCx) (X : Cx) (ss : List Stmt), XG G gv n c X → Own X → rSs c ms ss = true → PSs X ss (tSs G gv n X ms)
  | .nil, c, X, ss, h, o, r => by
    cases ss <;> first | (simp [rSs] at r; done) | skip
    exact PSs.weak pss_nil fun D σ H ⟨F, ρ, st, R, re, rs, w, p⟩ => p.nx ρ st σ H w Ext.refl rs re
  | .cons m ms, c, X, ss, h, o, r => by
    cases ss <;> first | (simp [rSs] at r; done) | skip
    rename_i s ss
    obtain ⟨r1, r2⟩ := ands (show (rS c m s && rSs c ms ss) = true from r)
    refine PSs.weak (pss_cons (simS m c X s h o r1) (simSs ms c X ss h o r2)) fun D σ H ⟨F, ρ, st, R, re, rs, w, p⟩ => ?_
    exact ⟨F, ρ, st, _, re, rs, w, fun ρ1 st1 σ1 H1 q1 x1 rs1 re1 => ⟨F, ρ1, st1, R, re1, rs1, q1, p.step x1⟩, p.bk, p.rt⟩
end
end Mi
/-! ## M12: each def keeps M0's word; the law's end -/
namespace Mi
open PySem PySem.Spec PyProof.Rows L2
/-- what is known of a def: its object, its text -/
structure DOk (G : Pg) (K : PySem.W.Frag) (mg : Str → Option Value) (fs : List Str) (f : Str) (d : Df) (a : Addr) (fd : FuncData) (ps : List Str) : Prop where
  at_ : mg f = some (.ref a)
  kp : PySem.W.keepIn K (.ref a) = true
  bd : L2.Binds K fd ps []
  tx : ∃ (x qual : Str) (params : Arguments) (body : List Stmt) (scope : Scope) (dvs : List V) (kws : List (Str × V)) (N : List Str), FunD K x qual params body scope dvs kws a fd ∧ FnScope N ps scope ∧ d.np = ps.length ∧ d.nn = N.length ∧
    rSs ⟨N, scope, fun _ => true, fs, G.kw⟩ d.body body = true
  kb : ∀ m ks, G.kw f m ks ≠ [] → KBn K fd ps m ks (fun us ws => pickL (G.kw f m ks) (us ++ ws)) (fun us ws => pickL (G.kw f m ks) (us ++ ws))
structure GOk (G : Pg) (gv : GV) (w : World) (K : PySem.W.Frag) (mg : Str → Option Value) : Prop where
  gw : gv.w = w
  fn : ∀ f d, G.defs.lookup f = some d → ∃ a fd ps, DOk G K mg (G.defs.map (·.1)) f d a fd ps
  glb : ∀ x d, G.glb x = some d → ∃ u v, mg x = some u ∧ RelV v u ∧ ∀ F H st, RS F K gv H st → RD F K gv H st d v
  blt : ∀ x ∈ bltNames, mg x = none
theorem lookup_of {α : Type} {f : Str} : ∀ {l : List (Str × α)}, (l.map (·.1)).contains f = true → ∃ d, l.lookup f = some d
  | [], h => by simp at h
  | (g, d) :: l, h => by
    rw [List.map_cons, List.contains_cons] at h
    rw [List.lookup_cons]
    cases q : f == g with
    | true => exact ⟨d, rfl⟩
    | false =>
      rw [q] at h
      exact lookup_of (by simpa using h)
theorem fn_all {G : Pg} {gv : GV} {P : Program} {w : World} {K : PySem.W.Frag} {mg : Str → Option Value} {base : Heap} (g : GOk G gv w K mg) :
    ∀ (n : Nat) (f : Str) (d : Df) (a : Addr) (fd : FuncData) (ps : List Str), G.defs.lookup f = some d → DOk G K mg (G.defs.map (·.1)) f d a fd ps → FnG P w K mg base n a fd ps (spN G gv K n f)
  | 0, f, d, a, fd, ps, hl, D => ⟨fun vs H Q E ⟨F, st, ds, Q', r, rd, h, _⟩ => False.elim h, fun A outer s H args us vs Q E _ _ _ _ _ ⟨F, st, ds, Q', r, rd, h, _⟩ => False.elim h⟩
  | n + 1, f, d, a, fd, ps, hl, D => by
    obtain ⟨x, qual, params, body, scope, dvs, kws, N, FD, S, hp, hn, r⟩ := D.tx
    have open_ : ∀ {vs : List V} {H : Hp} {Q : VK} {E : L2.XK}, spN G gv K (n + 1) f vs H Q E → ∃ F st ds Q', RS F K gv H st ∧ RDs F K gv H st ds vs ∧ (ds.length = d.np ∧ wSs (ctxN G n) d.body (env0 d.nn ds) st noX ⟨fun _ st => Q' .non st, Q', fun _ _ => False⟩) ∧
        ∀ d st' v H', Q' d st' → Ext st H st' H' → RS F K gv H' st' → RD F K gv H' st' d v → Q v H' := by
      rintro vs H Q E ⟨F, st, ds, Q', r, rd, h, p⟩
      refine ⟨F, st, ds, Q', r, rd, ?_, p⟩
      have h : (match G.defs.lookup f with
        | some d => ds.length = d.np ∧ wSs ⟨callN G n, G.glb, G.kw⟩ d.body (env0 d.nn ds) st noX ⟨fun _ st => Q' .non st, Q', fun _ _ => False⟩
        | none => False) := h
      rw [hl] at h
      exact h
    refine fnG_of FD S (fun vs H Q E h => ?_) fun cdv A outer s H vs Q E gd hr h => ?_
    · obtain ⟨F, st, ds, Q', r, rd, ⟨l, _⟩, _⟩ := open_ h
      rw [← rd.length, l, hp]
    · obtain ⟨F, st, ds, Q', rs, rd, ⟨l, hw⟩, p⟩ := open_ h
      have xg : XG G gv n ⟨N, scope, fun _ => true, G.defs.map (·.1), G.kw⟩ (cxOf CX0 P w K mg base N qual scope a cdv A outer s H E) := {
        xn := ⟨rfl, S.nd, rfl, fun _ _ => .inl rfl, rfl⟩
        mg := ⟨fun f' d' hl' => by
          obtain ⟨a', fd', ps', D'⟩ := g.fn f' d' hl'
          exact ⟨a', fd', ps', D'.at_, D'.kp, D'.bd, fn_all g n f' d' a' fd' ps' hl' D', D'.kb⟩, g.glb, g.blt⟩
        room := hr
        fs := fun f h => lookup_of h
        gd := gd
        gw := g.gw
        kw := rfl }
      have pl : ps.length ≤ N.length := by
        have e := congrArg List.length S.pre
        rw [List.length_take] at e
        omega
      refine ⟨tSs G gv n _ d.body, simSs d.body _ _ body xg PassesOwn.leaving r, F, env0 d.nn ds, st, _, ?_, rs, hw, ?_, ?_, ?_⟩
      · have e := RE.start0 N.length rd (by rw [l, hp]; exact pl)
        rw [hn]
        exact e
      · exact fun ρ' st' σ' H' q x rs' _ => p _ st' _ H' q x rs' .non
      · exact fun ρ' st' σ' H' q x rs' _ => False.elim q
      · exact p
/-! ### the end -/
theorem law_callG {P : Program} {w : World} {K : PySem.W.Frag} {mg mb : Str → Option Value} {k : Nat} {fa a : Addr} {fd : FuncData} {x : Str} {sp : Sp} {s : Shared} {vs : List Value} {ns : List Int}
    (KX : K.In s.heap) (hns : s.heap.Ns mainGlobals mg) (hb : s.heap.Ns builtinsNs mb) (hbb : ∀ x : Str, x ≠ "__name__" → mb x = bootBuiltins x) (hlim : s.heap.NoLimit) (hg : s.gens = #[])
    (ha : s.heap.get? a = some { cls := .type "list", data := .seq vs.toArray }) (hi : IntsAre vs ns) (hl : ns.length ≤ sizeLine) (hr : Room k callerA)
    (F : ∀ base : Heap, FnG P w K mg base k fa fd [x] sp) (hbind : ∀ (s : Shared) (u : Value), BindsTo s fd ⟨[u], []⟩ [(x, u)])
    (hsp : ∀ H : Hp, Only H → SqL K H a (ns.map V.int) → sp [.ref a] H (fun v _ => v = .bl true) fun _ _ _ => False) :
    codeAny (model P w) callerA (.call (.ref fa) ⟨[.ref a], []⟩) (fun r s' => r = .ok (.ret (.bool true)) ∧ OldK s.heap s'.heap ∧ s'.os = s.os ∧ AllBare s'.gens) s := by
  have rv := vals_ints hi
  have lenV := hi.length
  -- H tracks at most the script, and then not as one of K's
  have core : ∀ H : Hp, Only H → SqL K H a (ns.map V.int) → HOk P w H s.heap → (∀ b, H b ≠ none → b = a ∧ K.lookup a = none) →
      codeAny (model P w) callerA (.call (.ref fa) ⟨[.ref a], []⟩) (fun r s' => r = .ok (.ret (.bool true)) ∧ OldK s.heap s'.heap ∧ s'.os = s.os ∧ AllBare s'.gens) s := by
    intro H hO hS hok hA
    have hid : ∀ {b : Addr} {o : Obj}, s.heap.get? b = some o → ((∃ es ep, o.data = .dict es ep) ∨ K.lookup b ≠ none) → (hidT s.heap H).get? b = some o := fun {b o} e z => by
      refine hidT_get e ?_
      cases q : H b with
      | none => rfl
      | some u =>
        obtain ⟨e1, e2⟩ := hA b (by rw [q]; exact fun z => nomatch z)
        subst e1
        rcases z with ⟨es, ep, z⟩ | z
        · rw [ha] at e
          cases e
          cases z
        · exact absurd e2 z
    have nsK : ∀ {b : Addr} {m : Str → Option Value}, s.heap.Ns b m → (hidT s.heap H).Ns b m := fun ⟨o, es, ep, e, d, r⟩ => ⟨o, es, ep, hid e (.inl ⟨es, ep, d⟩), d, r⟩
    have hKb : K.In (hidT s.heap H) := fun b o e => hid (KX b o e) (.inr (by rw [e]; exact fun z => nomatch z))
    have none_in : ∀ b : Addr, b ∉ ([] : List Addr) := fun b => by simp
    have hM : Mod K mg (hidT s.heap H) := ⟨hKb, nsK hns, ⟨mb, nsK hb, hbb⟩, let ⟨mc, h1, h2⟩ := hlim; ⟨mc, nsK h1, h2⟩⟩
    have e0 : Env0 P w K mg (hidT s.heap H) callerA [] s H := ⟨rfl, hM, fun b o e => of_hidT e, Nat.le_of_eq (hidT_size _ _), trivial, fun b hb => absurd hb (none_in b), hok, .of_eq hg⟩
    refine codeAny_mono ((F _).run callerA [] s H ⟨[.ref a], []⟩ [.ref a] [.ref a] _ _ rfl hr e0 (hbind s (.ref a)) (.cons rfl .nil) (hsp H hO hS)) fun r s' h => ?_
    rcases r with e | fl
    · exact False.elim h
    · cases fl <;> first | exact False.elim h | skip
      obtain ⟨v, H', os, bare, un, hok', r', q⟩ := h
      have q : v = .bl true := q
      subst q
      have r' : _ = Value.bool true := r'
      subst r'
      refine ⟨rfl, OldK.of_keep fun b o e => ?_, os, bare⟩
      rcases hO b with z | ⟨ob, xs, z⟩
      · exact un.keep b o e z (none_in b) (by simp)
      · have e1 := (hok b _ z).1
        rw [e] at e1
        cases e1
        exact (hok' b _ (un.frzs b _ _ z)).1
  by_cases hk : K.lookup a = none
  · have atb : ∀ {b : Addr} {u : HO}, (if b = a then some (HO.frz { cls := .type "list", data := .seq vs.toArray } (.lst (ns.map V.int))) else none) = some u → b = a ∧ u = HO.frz { cls := .type "list", data := .seq vs.toArray } (.lst (ns.map V.int)) := fun {b u} z => by
      split at z
      · cases z
        exact ⟨by assumption, rfl⟩
      · cases z
    refine core (fun b => if b = a then some (.frz { cls := .type "list", data := .seq vs.toArray } (.lst (ns.map V.int))) else none) (fun b => ?_) (.inl (.inr ⟨_, if_pos rfl⟩)) (fun b u z => ?_) fun b z => ?_
    · by_cases e : b = a
      · exact .inr ⟨_, _, if_pos e⟩
      · exact .inl (if_neg e)
    · obtain ⟨e1, e2⟩ := atb z
      subst e1 e2
      exact ⟨ha, by rw [List.length_map]; exact hl, vs, _, rv, ha⟩
    · by_cases e : b = a
      · exact ⟨e, hk⟩
      · exact absurd (if_neg e) z
  · obtain ⟨o, ho⟩ := Option.ne_none_iff_exists'.mp hk
    have e := KX a o ho
    rw [ha] at e
    cases e
    exact core (fun _ => none) (fun _ => .inl rfl) (.inr ⟨_, vs.toArray, _, ho, rfl, rfl, rfl, by rw [List.size_toArray, lenV]; exact hl, by simpa using rv⟩) (fun b u z => nomatch z) fun b z => absurd rfl z
/-- THE END: M0's call, for each script, gives the law -/
theorem walk_mini {l : PySem.W.OpenLaw} {n k : Nat} {q : Program} {loose : List Str} {XP : (Str → Option Value) → Heap → Prop} {YP : World → Heap → Prop} {d : DefRec} {x : Str} (G : Pg)
    (hn : l.most = some n) (hn2 : n ≤ sizeLine) (hdf : d.params.defaults = []) (hr : Room k callerA) (df : Df) (hdd : G.defs.lookup d.name = some df)
    (F : ∀ (w : World) (mg : Str → Option Value) (h : Heap), YP w h → h.Ns mainGlobals mg → ∃ (K : PySem.W.Frag) (gv : GV), K.In h ∧ GOk G gv w K mg ∧ ∃ (a : Addr) (fd : FuncData), DOk G K mg (G.defs.map (·.1)) d.name df a fd [x] ∧ ∀ (s : Shared) (u : Value), BindsTo s fd ⟨[u], []⟩ [(x, u)])
    (law : ∀ ns : List Int, ns.length ≤ n → callN G k d.name [.ro (ns.map .int)] (fun _ => none) noX (fun d _ => d = .bl true)) :
    PySem.W.WalkO q loose XP YP l.row.toRowW d [] (fun f vs => PySem.call f vs) := by
  refine Att.attach_call hn hdf fun w s0 s1 mg mb fa o pm cd doc a vs ns T Y ho hd hcd hmg hobj hints hlen hg => ?_
  obtain ⟨K, gv, KX, gk, fa', fd, D, hb⟩ := F w mg _ Y T.T.g
  have e := D.at_
  rw [hmg] at e
  cases e
  refine law_callG (k := k) (sp := spN G gv K k d.name) KX T.T.g T.T.b T.T.builtins T.T.nolimit hg hobj hints (Nat.le_trans hlen hn2) hr (fun base => fn_all gk k d.name df fa fd [x] hdd D) hb fun H hO hS => ?_
  refine ⟨fun _ => False, fun _ => none, [.ro (ns.map .int)], _, ⟨fun _ _ z => (nomatch z), fun _ z => False.elim z⟩, .cons (.ro (vs := ns.map V.int) ?_ ?_) .nil, law ns hlen, fun d st' v H' q _ _ rd => ?_⟩
  · rcases hS with (h | ⟨o, h⟩) | h
    · rcases hO a with z | ⟨o, xs, z⟩
      · rw [h] at z
        cases z
      · rw [h] at z
        cases z
    · exact .inr ⟨⟨o, h⟩, fun z => z⟩
    · exact .inl h
  · have go : ∀ ns : List Int, RDs (fun _ => False) K gv H (fun _ => none) (ns.map Mi.D.int) (ns.map V.int) := fun ns => by
      induction ns with
      | nil => exact .nil
      | cons i is ih => exact .cons (.int i) ih
    exact go ns
  · subst q
    cases rd
    rfl
end Mi
/-! ## M13: code that changes no cell, evaluated; what it answers is what M0 tells -/
namespace Mi
open PySem
def binP (o : Op2) (x y : D) : Option D :=
  match o, x, y with
  | .add, .int i, .int j => some (.int (i + j))
  | .add, .tup a, .tup b => if a.length + b.length ≤ big then some (.tup (a ++ b)) else none
  | .add, .lst a, .lst b => if a.length + b.length ≤ big then some (.lst (a ++ b)) else none
  | .add, .str a, .str b => if a.length + b.length ≤ big then some (.str (a ++ b)) else none
  | .sub, .int i, .int j => some (.int (i - j))
  | .mul, .int i, .int j => if i.natAbs.log2 + j.natAbs.log2 < 1000000 then some (.int (i * j)) else none
  | .mul, .tup a, .int j => if a.isEmpty = false ∧ 2 ≤ j ∧ j ≤ 1000 ∧ a.length ≤ 1000 then some (.tup (repL j.toNat a)) else none
  | .mul, .lst a, .int j => if -(2 ^ 63) ≤ j ∧ j ≤ big ∧ a.length * j.toNat ≤ big then some (.lst (repL j.toNat a)) else none
  | .fdiv, .int i, .int j => if 0 < j ∧ j.natAbs.log2 < 9000 then some (.int (i / j)) else none
  | .mod, .int i, .int j => if 0 < j then some (.int (i % j)) else none
  | .pow, .int i, .int j => if 0 ≤ j ∧ (Builtin.Int.intBits i : Int) * j ≤ 2 ^ 27 then some (.int (i ^ j.toNat)) else none
  | _, _, _ => none
def augP (o : Op2) (x y : D) : Option D :=
  match o, x, y with
  | .add, .int i, .int j => some (.int (i + j))
  | .sub, .int i, .int j => some (.int (i - j))
  | .mul, .int i, .int j => if (-(2 ^ 64) < i ∧ i < 2 ^ 64) ∨ (-(2 ^ 64) < j ∧ j < 2 ^ 64) then some (.int (i * j)) else none
  | .fdiv, .int i, .int j => if 0 < j ∧ j < 1073741824 then some (.int (i / j)) else none
  | .mod, .int i, .int j => if 0 < j then some (.int (i % j)) else none
  | .add, .str a, .str b => if a.length + b.length ≤ big then some (.str (a ++ b)) else none
  | _, _, _ => none
def pureP (x y : D) : Option Bool := if x.pure = true ∧ y.pure = true ∧ (x.depth ≤ 60 ∨ y.depth ≤ 60) then some (D.eqv x y) else none
def isNil : D → Bool
  | .tup [] => true
  | .lst [] => true
  | _ => false
def eqP (x y : D) : Option Bool :=
  if isNil y = true then match y, x with
    | .tup _, .tup xs => some xs.isEmpty
    | .lst _, .lst xs => some xs.isEmpty
    | y, x => pureP x y
  else pureP x y
def inP (x y : D) : Option Bool :=
  match y with
  | .str j => match x with
    | .str i => some (strIn i j)
    | _ => none
  | .lst ys => if x.pure = true ∧ D.pures ys = true ∧ x.depth ≤ 60 then some (inD x ys) else none
  | .tup ys => if x.pure = true ∧ D.pures ys = true ∧ x.depth ≤ 60 then some (inD x ys) else none
  | .tab ks _ => match x with
    | .str z => some (ks.contains z)
    | _ => none
  | _ => none
def isP (x y : D) : Option Bool :=
  match y with
  | .non => match x with
    | .loc _ => none
    | x => some (isNon x)
  | .bl b => match x with
    | .bl a => some (a == b)
    | _ => none
  | _ => none
def ltP (x y : D) : Option Bool :=
  match x, y with
  | .int i, .int j => some (decide (i < j))
  | .str i, .str j => some (decide (i.cps.toList < j.cps.toList))
  | _, _ => none
def ordP (f : Int → Int → Bool) (x y : D) : Option Bool :=
  match x, y with
  | .int i, .int j => some (f i j)
  | _, _ => none
def cmpP (o : Cm) (x y : D) : Option Bool :=
  match o with
  | .eq => eqP x y
  | .ne => (eqP x y).map (!·)
  | .lt => ltP x y
  | .le => ordP (fun i j => decide (i ≤ j)) x y
  | .gt => ordP (fun i j => decide (j < i)) x y
  | .ge => ordP (fun i j => decide (j ≤ i)) x y
  | .inn => inP x y
  | .nin => (inP x y).map (!·)
  | .is_ => isP x y
  | .isnt => (isP x y).map (!·)
def ixP (x i : D) : Option D :=
  match x, i with
  | .lst xs, .int k => at_ xs k
  | .ro xs, .int k => at_ xs k
  | .tup xs, .int k => at_ xs k
  | _, _ => none
def slP (x : D) (lo hi : Option Int) : Option D :=
  match x with
  | .lst xs => some (.lst (cut xs lo hi))
  | .tup xs => some (.tup (cut xs lo hi))
  | _ => none
def showsB (d : D) : Bool := d.pure && d.pd.showable && decide (d.depth ≤ 60) && decide (d.pd.shown.length ≤ big)
def bi1P (b : Bi) (d : D) : Option D :=
  match b, d with
  | .len, .lst xs => some (.int xs.length)
  | .len, .ro xs => some (.int xs.length)
  | .len, .tup xs => some (.int xs.length)
  | .len, .str x => if x.length ≤ big then some (.int x.length) else none
  | .abs, .int i => some (.int (if i < 0 then -i else i))
  | .int, .int i => some (.int i)
  | .int, .bl b => some (.int (if b then 1 else 0))
  | .all, .lst xs => (allB xs).map fun bs => .bl (bs.all id)
  | .any, .lst xs => (allB xs).map fun bs => .bl (bs.any id)
  | .sum, .lst xs => (intsD xs).map fun ns => .int ns.sum
  | .list, .lst xs => some (.lst xs)
  | .list, .tup xs => some (.lst xs)
  | .tuple, .lst xs => some (.tup xs)
  | .tuple, .tup xs => some (.tup xs)
  | .repr, d => if d.isSeq = true ∧ showsB d = true then some (.str d.pd.shown) else none
  | _, _ => none
def bi2P (b : Bi) (d e : D) : Option D :=
  match b, d, e with
  | .max2, .int i, .int j => some (if decide (j > i) = true then e else d)
  | .min2, .int i, .int j => some (if decide (j < i) = true then e else d)
  | _, _, _ => none
def biP (b : Bi) : List D → Option D
  | [x] => bi1P b x
  | [x, y] => bi2P b x y
  | _ => none
def tgP (t : Tg) (x : D) (ρ : Ev) : Option Ev :=
  match t with
  | .name i => some (sv ρ i (some x))
  | .tup is => match x with
    | .tup xs => stores is xs ρ
    | _ => none
  | .star is k => match x with
    | .tup xs => if is.length ≤ xs.length ∧ xs.length ≤ 10000 then (stores is (xs.take is.length) ρ).map fun ρ => sv ρ k (some (.lst (xs.drop is.length))) else none
    | _ => none
/-- a comprehension's turns -/
def pLc (turn : D → Option (Option D)) : List D → Option (List D)
  | [] => some []
  | x :: xs => match turn x with
    | some (some y) => (pLc turn xs).map (y :: ·)
    | some none => pLc turn xs
    | none => none
structure PC where
  call : Str → List D → Option D
  glb : Str → Option D
  kw : Str → Nat → List Str → List Nat
mutual
def pE (Γ : PC) : E → Ev → Option D
  | .v i, ρ => lk ρ i
  | .int i, _ => some (.int i)
  | .str x, _ => some (.str x)
  | .bl b, _ => some (.bl b)
  | .non, _ => some .non
  | .glb x, _ => Γ.glb x
  | .bin o a b, ρ => match pE Γ a ρ with
    | some x => match pE Γ b ρ with
      | some y => binP o x y
      | none => none
    | none => none
  | .neg a, ρ => match pE Γ a ρ with
    | some (.int i) => some (.int (-i))
    | _ => none
  | .cmp o a b, ρ => match pE Γ a ρ with
    | some x => match pE Γ b ρ with
      | some y => (cmpP o x y).map .bl
      | none => none
    | none => none
  | .chain o o' a b c, ρ => match pE Γ a ρ with
    | some x => match pE Γ b ρ with
      | some y => match cmpP o x y with
        | some true => match pE Γ c ρ with
          | some z => (cmpP o' y z).map .bl
          | none => none
        | some false => some (.bl false)
        | none => none
      | none => none
    | none => none
  | .and_ es, ρ => pAnd Γ es ρ
  | .or_ es, ρ => pOr Γ es ρ
  | .not_ a, ρ => match pE Γ a ρ with
    | some (.bl b) => some (.bl !b)
    | _ => none
  | .ife c a b, ρ => match pE Γ c ρ with
    | some (.bl true) => pE Γ a ρ
    | some (.bl false) => pE Γ b ρ
    | _ => none
  | .ix a i, ρ => match pE Γ a ρ with
    | some x => match pE Γ i ρ with
      | some k => ixP x k
      | none => none
    | none => none
  | .sl a lo hi, ρ => match pE Γ a ρ with
    | some x => match pEo Γ lo ρ with
      | some l => match pEo Γ hi ρ with
        | some h => slP x l h
        | none => none
      | none => none
    | none => none
  | .tup es, ρ => (pEs Γ es ρ).map .tup
  | .lst fr es, ρ => if fr = true then (pEs Γ es ρ).map .lst else none
  | .dic fr ks vs, _ => if fr = true then (match ks, vs with
    | .nil, .nil => some (.dct [] [])
    | _, _ => none) else none
  | .call f es, ρ => match pEs Γ es ρ with
    | some xs => Γ.call f xs
    | none => none
  | .callk f es n ks kes, ρ => match pEs Γ es ρ with
    | some xs => match pEs Γ kes ρ with
      | some ys => if xs.length = n ∧ ys.length = ks.length then Γ.call f (pickL (Γ.kw f n ks) (xs ++ ys)) else none
      | none => none
    | none => none
  | .bi b es, ρ => match pEs Γ es ρ with
    | some xs => biP b xs
    | none => none
  | .isi a t, ρ => match pE Γ a ρ with
    | some x => (isT t x).map .bl
    | none => none
  | .lc fr elt tg it c own, ρ => if fr = true then (match pIt Γ it ρ with
    | some items => if items.length ≤ big then (pLc (fun x => match tgP tg x (wipeD ρ own) with
        | some ρ => match pC Γ c ρ with
          | some true => (pE Γ elt ρ).map some
          | some false => some none
          | none => none
        | none => none) items).map .lst else none
    | none => none) else none
  | _, _ => none
def pEs (Γ : PC) : Es → Ev → Option (List D)
  | .nil, _ => some []
  | .cons e es, ρ => match pE Γ e ρ with
    | some x => (pEs Γ es ρ).map (x :: ·)
    | none => none
def pAnd (Γ : PC) : Es → Ev → Option D
  | .nil, _ => none
  | .cons e .nil, ρ => pE Γ e ρ
  | .cons e (.cons e' es), ρ => match pE Γ e ρ with
    | some (.bl true) => pAnd Γ (.cons e' es) ρ
    | some (.bl false) => some (.bl false)
    | _ => none
def pOr (Γ : PC) : Es → Ev → Option D
  | .nil, _ => none
  | .cons e .nil, ρ => pE Γ e ρ
  | .cons e (.cons e' es), ρ => match pE Γ e ρ with
    | some (.bl true) => some (.bl true)
    | some (.bl false) => pOr Γ (.cons e' es) ρ
    | _ => none
def pEo (Γ : PC) : Eo → Ev → Option (Option Int)
  | .none, _ => some none
  | .some e, ρ => match pE Γ e ρ with
    | some (.int i) => some (some i)
    | _ => none
def pC (Γ : PC) : Eo → Ev → Option Bool
  | .none, _ => some true
  | .some e, ρ => match pE Γ e ρ with
    | some (.bl b) => some b
    | _ => none
def pIt (Γ : PC) : It → Ev → Option (List D)
  | .e a, ρ => match pE Γ a ρ with
    | some x => itemsOf x
    | none => none
  | .rng1 a, ρ => match pE Γ a ρ with
    | some (.int j) => if -(2 ^ 62) ≤ j ∧ j < 2 ^ 62 then some (rngD 0 j) else none
    | _ => none
  | .rng2 a b, ρ => match pE Γ a ρ with
    | some (.int i) => match pE Γ b ρ with
      | some (.int j) => if (-(2 ^ 62) ≤ i ∧ i < 2 ^ 62) ∧ (-(2 ^ 62) ≤ j ∧ j < 2 ^ 62) then some (rngD i j) else none
      | _ => none
    | _ => none
  | _, _ => none
end
inductive Re where
  | nx (ρ : Ev) | rt (d : D) | bk (ρ : Ev)
def pFor (tg : Tg) (body : Ev → Option Re) : List D → Ev → Option Re
  | [], ρ => some (.nx ρ)
  | x :: xs, ρ => match tgP tg x ρ with
    | some ρ => match body ρ with
      | some (.nx ρ) => pFor tg body xs ρ
      | some (.rt d) => some (.rt d)
      | some (.bk ρ) => some (.nx ρ)
      | none => none
    | none => none
def pWhile (c : Ev → Option Bool) (body : Ev → Option Re) : Nat → Ev → Option Re
  | 0, _ => none
  | n + 1, ρ => match c ρ with
    | some true => match body ρ with
      | some (.nx ρ) => pWhile c body n ρ
      | some (.rt d) => some (.rt d)
      | some (.bk ρ) => some (.nx ρ)
      | none => none
    | some false => some (.nx ρ)
    | none => none
def turns : Nat := 100000
mutual
def pS (Γ : PC) : S → Ev → Option Re
  | .asg tg e, ρ => match pE Γ e ρ with
    | some x => (tgP tg x ρ).map .nx
    | none => none
  | .par is es, ρ => match pEs Γ es ρ with
    | some xs => (stores is xs ρ).map .nx
    | none => none
  | .aug i o e, ρ => match lk ρ i with
    | some x => match pE Γ e ρ with
      | some y => (augP o x y).map fun z => .nx (sv ρ i (some z))
      | none => none
    | none => none
  | .ex e, ρ => (pE Γ e ρ).map fun _ => .nx ρ
  | .ret e, ρ => (pE Γ e ρ).map .rt
  | .ret0, _ => some (.rt .non)
  | .ife c a b, ρ => match pE Γ c ρ with
    | some (.bl true) => pSs Γ a ρ
    | some (.bl false) => pSs Γ b ρ
    | _ => none
  | .for_ tg it b, ρ => match pIt Γ it ρ with
    | some items => pFor tg (fun ρ => pSs Γ b ρ) items ρ
    | none => none
  | .while_ c b, ρ => pWhile (fun ρ => match pE Γ c ρ with
    | some (.bl k) => some k
    | _ => none) (fun ρ => pSs Γ b ρ) turns ρ
  | .brk, ρ => some (.bk ρ)
  | .pass, ρ => some (.nx ρ)
  | _, _ => none
def pSs (Γ : PC) : Ss → Ev → Option Re
  | .nil, ρ => some (.nx ρ)
  | .cons s ss, ρ => match pS Γ s ρ with
    | some (.nx ρ) => pSs Γ ss ρ
    | r => r
end
def outP : Option Re → Option D
  | some (.rt d) => some d
  | some (.nx _) => some .non
  | _ => none
def runN (G : Pg) : Nat → Str → List D → Option D
  | 0, _, _ => none
  | n + 1, f, xs => match G.defs.lookup f with
    | some d => if xs.length = d.np then outP (pSs ⟨runN G n, G.glb, G.kw⟩ d.body (env0 d.nn xs)) else none
    | none => none
end Mi
/-! ## M14: what is evaluated is what M0 tells -/
namespace Mi
open PySem
section
variable {st : Store} {Q : QD}
theorem binP_ok {o : Op2} {x y d : D} (h : binP o x y = some d) (q : Q d st) : binW o x y st Q := by
  unfold binP at h
  split at h
  case h_7 a j =>
    split at h
    · rename_i c
      cases h
      exact ⟨⟨fun z => by rw [z] at c; exact absurd c.1 (by simp), c.2.1, c.2.2.1, c.2.2.2⟩, q⟩
    · cases h
  all_goals first | (cases h; exact q) | (split at h <;> first | (cases h; exact ⟨‹_›, q⟩) | cases h) | cases h
theorem augP_ok {o : Op2} {x y d : D} (h : augP o x y = some d) (q : Q d st) : augW o x y st Q := by
  unfold augP at h
  split at h
  all_goals first | (cases h; exact q) | (split at h <;> first | (cases h; exact ⟨‹_›, q⟩) | cases h) | cases h
theorem pureP_ok {x y : D} {b : Bool} {P : Bool → Prop} (h : pureP x y = some b) (q : P b) (n1 : ∀ xs, x = .tup xs → y ≠ .tup []) (n2 : ∀ xs, x = .lst xs → y ≠ .lst []) : eqW x y P := by
  unfold pureP at h
  split at h
  · rename_i c
    cases h
    have g : x.pure = true ∧ y.pure = true ∧ shallow x y ∧ P (D.eqv x y) := ⟨c.1, c.2.1, c.2.2, q⟩
    unfold eqW
    split
    · exact absurd rfl (n1 _ rfl)
    · exact absurd rfl (n2 _ rfl)
    · exact g
  · cases h
theorem eqP_ok {x y : D} {b : Bool} {P : Bool → Prop} (h : eqP x y = some b) (q : P b) : eqW x y P := by
  unfold eqP at h
  split at h
  · rename_i c
    cases y with
    | tup ys =>
      cases ys with
      | cons _ _ => cases c
      | nil =>
        cases x with
        | tup xs =>
          cases h
          exact q
        | _ => exact pureP_ok h q (fun _ z => nomatch z) (fun _ _ z => nomatch z)
    | lst ys =>
      cases ys with
      | cons _ _ => cases c
      | nil =>
        cases x with
        | lst xs =>
          cases h
          exact q
        | _ => exact pureP_ok h q (fun _ _ z => nomatch z) (fun _ z => nomatch z)
    | _ => cases c
  · rename_i c
    exact pureP_ok h q (fun _ _ z => by rw [z] at c; exact c rfl) (fun _ _ z => by rw [z] at c; exact c rfl)
theorem inP_ok {x y : D} {b : Bool} {P : Bool → Prop} (h : inP x y = some b) (q : P b) : inW x y P := by
  unfold inP at h
  split at h
  · split at h <;> first | (cases h; exact q) | cases h
  · split at h <;> first | (cases h; exact ⟨‹_›, q⟩) | cases h
  · split at h <;> first | (cases h; exact ⟨‹_›, q⟩) | cases h
  · split at h <;> first | (cases h; exact q) | cases h
  · cases h
theorem not_ok {o : Option Bool} {b : Bool} {P : Bool → Prop} {W : (Bool → Prop) → Prop} (h : o.map (!·) = some b) (q : P b) (w : ∀ {c : Bool} {P : Bool → Prop}, o = some c → P c → W P) : W fun k => P !k := by
  cases o with
  | none => cases h
  | some c =>
    cases h
    exact w rfl q
theorem isP_ok {x y : D} {b : Bool} {P : Bool → Prop} (h : isP x y = some b) (q : P b) : isW x y P ∧ ∀ st, der st x = x := by
  unfold isP at h
  split at h
  · split at h
    · cases h
    · rename_i n
      cases h
      refine ⟨q, fun st => ?_⟩
      cases x <;> first | rfl | exact absurd rfl (n _)
  · split at h
    · cases h
      exact ⟨q, fun _ => rfl⟩
    · cases h
  · cases h
theorem ltP_ok {x y : D} {b : Bool} {P : Bool → Prop} (h : ltP x y = some b) (q : P b) : ltW x y P := by
  unfold ltP at h
  split at h <;> first | (cases h; exact q) | cases h
theorem ordP_ok {f : Int → Int → Bool} {x y : D} {b : Bool} {P : Bool → Prop} (h : ordP f x y = some b) (q : P b) : ordW f x y P := by
  unfold ordP at h
  split at h <;> first | (cases h; exact q) | cases h
/-- what is no cell is read as it is -/
def noLoc : D → Bool
  | .loc _ => false
  | _ => true
theorem der_id {d : D} (h : noLoc d = true) : der st d = d := by
  cases d <;> first | rfl | cases h
theorem pureP_no {x y : D} {b : Bool} (h : pureP x y = some b) : noLoc x = true ∧ noLoc y = true := by
  unfold pureP at h
  split at h
  · rename_i c
    obtain ⟨c1, c2, _⟩ := c
    constructor
    · cases x <;> first | rfl | cases c1
    · cases y <;> first | rfl | cases c2
  · cases h
theorem eqP_no {x y : D} {b : Bool} (h : eqP x y = some b) : noLoc x = true ∧ noLoc y = true := by
  unfold eqP at h
  split at h
  · split at h
    · exact ⟨rfl, rfl⟩
    · exact ⟨rfl, rfl⟩
    · exact pureP_no h
  · exact pureP_no h
theorem inP_no {x y : D} {b : Bool} (h : inP x y = some b) : noLoc x = true ∧ noLoc y = true := by
  unfold inP at h
  split at h
  · split at h <;> first | exact ⟨rfl, rfl⟩ | cases h
  · split at h
    · rename_i c
      refine ⟨?_, rfl⟩
      have c1 := c.1
      cases x <;> first | rfl | cases c1
    · cases h
  · split at h
    · rename_i c
      refine ⟨?_, rfl⟩
      have c1 := c.1
      cases x <;> first | rfl | cases c1
    · cases h
  · split at h <;> first | exact ⟨rfl, rfl⟩ | cases h
  · cases h
theorem isP_no {x y : D} {b : Bool} (h : isP x y = some b) : noLoc x = true ∧ noLoc y = true := by
  unfold isP at h
  split at h
  · split at h
    · cases h
    · rename_i n
      refine ⟨?_, rfl⟩
      cases x <;> first | rfl | exact absurd rfl (n _)
  · split at h <;> first | exact ⟨rfl, rfl⟩ | cases h
  · cases h
theorem ltP_no {x y : D} {b : Bool} (h : ltP x y = some b) : noLoc x = true ∧ noLoc y = true := by
  unfold ltP at h
  split at h <;> first | exact ⟨rfl, rfl⟩ | cases h
theorem ordP_no {f : Int → Int → Bool} {x y : D} {b : Bool} (h : ordP f x y = some b) : noLoc x = true ∧ noLoc y = true := by
  unfold ordP at h
  split at h <;> first | exact ⟨rfl, rfl⟩ | cases h
theorem map_no {o : Option Bool} {b : Bool} (h : o.map (!·) = some b) : ∃ c, o = some c := by
  cases o with
  | none => cases h
  | some c => exact ⟨c, rfl⟩
theorem cmpP_ok {o : Cm} {x y : D} {b : Bool} {P : Bool → Prop} (h : cmpP o x y = some b) (q : P b) : cmpW o x y st P := by
  have go : noLoc x = true ∧ noLoc y = true → cmpV o x y P → cmpW o x y st P := fun ⟨a, b⟩ w => by
    unfold cmpW
    rw [der_id a, der_id b]
    exact w
  cases o with
  | eq => exact go (eqP_no h) (eqP_ok h q)
  | ne =>
    obtain ⟨c, e⟩ := map_no h
    exact go (eqP_no e) (not_ok (W := fun P => eqW x y P) h q fun e q => eqP_ok e q)
  | lt => exact go (ltP_no h) (ltP_ok h q)
  | le => exact go (ordP_no h) (ordP_ok h q)
  | gt => exact go (ordP_no h) (ordP_ok h q)
  | ge => exact go (ordP_no h) (ordP_ok h q)
  | inn => exact go (inP_no h) (inP_ok h q)
  | nin =>
    obtain ⟨c, e⟩ := map_no h
    exact go (inP_no e) (not_ok (W := fun P => inW x y P) h q fun e q => inP_ok e q)
  | is_ => exact go (isP_no h) (isP_ok h q).1
  | isnt =>
    obtain ⟨c, e⟩ := map_no h
    exact go (isP_no e) (not_ok (W := fun P => isW x y P) h q fun e q => (isP_ok e q).1)
theorem ixP_ok {x i d : D} (h : ixP x i = some d) (q : Q d st) : ixW x i st Q := by
  unfold ixP at h
  split at h <;> first | exact ⟨d, h, q⟩ | cases h
theorem slP_ok {x d : D} {lo hi : Option Int} (h : slP x lo hi = some d) (q : Q d st) : slW x lo hi st Q := by
  unfold slP at h
  split at h <;> first | (cases h; exact q) | cases h
theorem showsB_ok {d : D} (h : showsB d = true) : shows d := by
  unfold showsB at h
  obtain ⟨h, h4⟩ := Bool.and_eq_true_iff.mp h
  obtain ⟨h, h3⟩ := Bool.and_eq_true_iff.mp h
  obtain ⟨h1, h2⟩ := Bool.and_eq_true_iff.mp h
  exact ⟨h1, h2, of_decide_eq_true h3, of_decide_eq_true h4⟩
theorem bi1P_ok {b : Bi} {x d : D} (h : bi1P b x = some d) (q : Q d st) : noLoc x = true ∧ bi1 b x st Q := by
  unfold bi1P at h
  split at h
  case h_8 xs =>
    refine ⟨rfl, ?_⟩
    cases e : allB xs with
    | none => rw [e] at h; cases h
    | some bs => rw [e] at h; cases h; exact ⟨bs, e, q⟩
  case h_9 xs =>
    refine ⟨rfl, ?_⟩
    cases e : allB xs with
    | none => rw [e] at h; cases h
    | some bs => rw [e] at h; cases h; exact ⟨bs, e, q⟩
  case h_10 xs =>
    refine ⟨rfl, ?_⟩
    cases e : intsD xs with
    | none => rw [e] at h; cases h
    | some bs => rw [e] at h; cases h; exact ⟨bs, e, q⟩
  case h_15 =>
    split at h
    · rename_i c
      cases h
      have c1 := c.1
      refine ⟨?_, ⟨c1, showsB_ok c.2⟩, q⟩
      cases x <;> first | rfl | cases c1
    · cases h
  all_goals first | (cases h; exact ⟨rfl, q⟩) | (split at h <;> first | (cases h; exact ⟨rfl, ‹_›, q⟩) | cases h) | cases h
theorem bi2P_ok {b : Bi} {x y d : D} (h : bi2P b x y = some d) (q : Q d st) : noLoc x = true ∧ noLoc y = true ∧ bi2 b x y st Q := by
  unfold bi2P at h
  split at h <;> first | (cases h; exact ⟨rfl, rfl, q⟩) | cases h
theorem biP_ok {b : Bi} {xs : List D} {d : D} (h : biP b xs = some d) (q : Q d st) : biW b xs st Q := by
  unfold biP at h
  split at h
  · obtain ⟨h1, h2⟩ := bi1P_ok h q
    show bi1 b (der st _) st Q
    rw [der_id h1]
    exact h2
  · obtain ⟨h1, h2, h3⟩ := bi2P_ok h q
    show bi2 b (der st _) (der st _) st Q
    rw [der_id h1, der_id h2]
    exact h3
  · cases h
theorem isT_no {t : Ty} {x : D} {b : Bool} (h : isT t x = some b) : noLoc x = true := by
  cases x <;> first | rfl | (cases t <;> cases h)
theorem tgP_ok {t : Tg} {x : D} {ρ ρ' : Ev} {Q : Ev → Store → Prop} (h : tgP t x ρ = some ρ') (q : Q ρ' st) : tgW t x ρ st Q := by
  unfold tgP at h
  split at h
  · cases h
    exact q
  · split at h
    · exact ⟨ρ', h, q⟩
    · cases h
  · split at h
    · split at h
      · rename_i c
        obtain ⟨ρ1, e, e2⟩ := Option.map_eq_some_iff.mp h
        subst e2
        exact ⟨c, ρ1, e, q⟩
      · cases h
    · cases h
end
/-! ### code -/
section
variable {Γ : Ctx} {Pc : PC}
/-- what is evaluated of the defs is right -/
structure POk (Pc : PC) (Γ : Ctx) : Prop where
  call : ∀ f xs d, Pc.call f xs = some d → ∀ st X Q, Q d st → Γ.call f xs st X Q
  glb : Pc.glb = Γ.glb
  kw : Pc.kw = Γ.kw
theorem pLc_ok {turn : D → Option (Option D)} {g : Store → Prop} {T : D → Store → (Option D → Store → Prop) → Prop} (hg : ∀ st, g st) (ht : ∀ x o, turn x = some o → ∀ st K, K o st → T x st K) :
    ∀ (items acc ys : List D), pLc turn items = some ys → acc.length + items.length ≤ big → ∀ (st : Store) (Q : List D → Store → Prop), Q (acc ++ ys) st → lcW g T items acc st Q
  | [], acc, ys, h, _, st, Q, q => by
    cases h
    rw [List.append_nil] at q
    exact ⟨hg st, q⟩
  | x :: xs, acc, ys, h, hb, st, Q, q => by
    have h : (match turn x with
      | some (some y) => (pLc turn xs).map (y :: ·)
      | some none => pLc turn xs
      | none => none) = some ys := h
    have hb : acc.length + (xs.length + 1) ≤ big := hb
    cases e : turn x with
    | none => rw [e] at h; cases h
    | some o =>
      rw [e] at h
      refine ⟨hg st, ht x o e st _ ?_⟩
      cases o with
      | none => exact pLc_ok hg ht xs acc ys h (by omega) st Q q
      | some y =>
        obtain ⟨zs, e1, e2⟩ := Option.map_eq_some_iff.mp h
        subst e2
        refine ⟨by omega, pLc_ok hg ht xs (acc ++ [y]) zs e1 (by rw [List.length_append]; simp; omega) st Q ?_⟩
        rw [List.append_assoc]
        exact q
theorem items_no {d : D} {xs : List D} (h : itemsOf d = some xs) : noLoc d = true := by
  cases d <;> first | rfl | cases h
mutual
theorem pE_ok (k : POk Pc Γ) : ∀ (e : E) (ρ : Ev) (d : D), pE Pc e ρ = some d → ∀ st X Q, Q d st → wE Γ e ρ st X Q
  | .v i, ρ, d, h, st, X, Q, q => by
    show (match lk ρ i with
      | some d => Q d st
      | none => False)
    have h : lk ρ i = some d := h
    rw [h]
    exact q
  | .int i, ρ, d, h, st, X, Q, q => by cases h; exact q
  | .str i, ρ, d, h, st, X, Q, q => by cases h; exact q
  | .bl i, ρ, d, h, st, X, Q, q => by cases h; exact q
  | .non, ρ, d, h, st, X, Q, q => by cases h; exact q
  | .glb x, ρ, d, h, st, X, Q, q => by
    show (match Γ.glb x with
      | some d => Q d st
      | none => False)
    have h : Pc.glb x = some d := h
    rw [← k.glb, h]
    exact q
  | .bin o a b, ρ, d, h, st, X, Q, q => by
    unfold pE at h
    split at h
    · rename_i x e1
      split at h
      · rename_i y e2
        exact pE_ok k a ρ x e1 st X _ (pE_ok k b ρ y e2 st X _ (binP_ok h q))
      · cases h
    · cases h
  | .neg a, ρ, d, h, st, X, Q, q => by
    unfold pE at h
    split at h
    · rename_i x e1
      cases h
      exact pE_ok k a ρ _ e1 st X _ q
    · cases h
  | .cmp o a b, ρ, d, h, st, X, Q, q => by
    unfold pE at h
    split at h
    · rename_i x e1
      split at h
      · rename_i y e2
        obtain ⟨c, e3, e4⟩ := Option.map_eq_some_iff.mp h
        subst e4
        exact pE_ok k a ρ x e1 st X _ (pE_ok k b ρ y e2 st X _ (cmpP_ok (P := fun k => Q (.bl k) st) e3 q))
      · cases h
    · cases h
  | .chain o o' a b c, ρ, d, h, st, X, Q, q => by
    unfold pE at h
    split at h
    · rename_i x e1
      split at h
      · rename_i y e2
        refine pE_ok k a ρ x e1 st X _ (pE_ok k b ρ y e2 st X _ ?_)
        split at h
        · rename_i e3
          refine cmpP_ok e3 ?_
          rw [if_pos rfl]
          split at h
          · rename_i z e4
            obtain ⟨c', e5, e6⟩ := Option.map_eq_some_iff.mp h
            subst e6
            exact pE_ok k c ρ z e4 st X _ (cmpP_ok (P := fun k => Q (.bl k) st) e5 q)
          · cases h
        · rename_i e3
          cases h
          refine cmpP_ok e3 ?_
          rw [if_neg (by decide)]
          exact q
        · cases h
      · cases h
    · cases h
  | .and_ es, ρ, d, h, st, X, Q, q => pAnd_ok k es ρ d h st X Q q
  | .or_ es, ρ, d, h, st, X, Q, q => pOr_ok k es ρ d h st X Q q
  | .not_ a, ρ, d, h, st, X, Q, q => by
    unfold pE at h
    split at h
    · rename_i x e1
      cases h
      exact pE_ok k a ρ _ e1 st X _ q
    · cases h
  | .ife c a b, ρ, d, h, st, X, Q, q => by
    unfold pE at h
    split at h
    · rename_i e1
      refine pE_ok k c ρ _ e1 st X _ ?_
      show (if true = true then wE Γ a ρ st X Q else wE Γ b ρ st X Q)
      rw [if_pos rfl]
      exact pE_ok k a ρ d h st X Q q
    · rename_i e1
      refine pE_ok k c ρ _ e1 st X _ ?_
      show (if false = true then wE Γ a ρ st X Q else wE Γ b ρ st X Q)
      rw [if_neg (by decide)]
      exact pE_ok k b ρ d h st X Q q
    · cases h
  | .ix a i, ρ, d, h, st, X, Q, q => by
    unfold pE at h
    split at h
    · rename_i x e1
      split at h
      · rename_i y e2
        exact pE_ok k a ρ x e1 st X _ (pE_ok k i ρ y e2 st X _ (ixP_ok h q))
      · cases h
    · cases h
  | .sl a lo hi, ρ, d, h, st, X, Q, q => by
    unfold pE at h
    split at h
    · rename_i x e1
      split at h
      · rename_i l e2
        split at h
        · rename_i u e3
          exact pE_ok k a ρ x e1 st X _ (pEo_ok k lo ρ l e2 st X _ (pEo_ok k hi ρ u e3 st X _ (slP_ok h q)))
        · cases h
      · cases h
    · cases h
  | .rev a, ρ, d, h, st, X, Q, q => by cases h
  | .tup es, ρ, d, h, st, X, Q, q => by
    obtain ⟨xs, e1, e2⟩ := Option.map_eq_some_iff.mp (show (pEs Pc es ρ).map D.tup = some d from h)
    subst e2
    exact pEs_ok k es ρ xs e1 st X _ q
  | .lst fr es, ρ, d, h, st, X, Q, q => by
    unfold pE at h
    split at h
    · rename_i c
      obtain ⟨xs, e1, e2⟩ := Option.map_eq_some_iff.mp h
      subst e2
      refine pEs_ok k es ρ xs e1 st X _ ?_
      rw [if_pos c]
      exact q
    · cases h
  | .dic fr ks vs, ρ, d, h, st, X, Q, q => by
    unfold pE at h
    split at h
    · rename_i c
      cases ks <;> cases vs <;> first | (cases h; done) | skip
      cases h
      show (if fr = true then Q (.dct [] []) st else newD [] [] st Q)
      rw [if_pos c]
      exact q
    · cases h
  | .call f es, ρ, d, h, st, X, Q, q => by
    unfold pE at h
    split at h
    · rename_i xs e1
      exact pEs_ok k es ρ xs e1 st X _ (k.call f xs d h st X Q q)
    · cases h
  | .callk f es n ks kes, ρ, d, h, st, X, Q, q => by
    unfold pE at h
    split at h
    · rename_i xs e1
      split at h
      · rename_i ys e2
        split at h
        · rename_i c
          rw [k.kw] at h
          exact pEs_ok k es ρ xs e1 st X _ (pEs_ok k kes ρ ys e2 st X _ ⟨c, k.call f _ d h st X Q q⟩)
        · cases h
      · cases h
    · cases h
  | .bi b es, ρ, d, h, st, X, Q, q => by
    unfold pE at h
    split at h
    · rename_i xs e1
      exact pEs_ok k es ρ xs e1 st X _ (biP_ok h q)
    · cases h
  | .mth m o es, ρ, d, h, st, X, Q, q => by cases h
  | .isi a t, ρ, d, h, st, X, Q, q => by
    unfold pE at h
    split at h
    · rename_i x e1
      obtain ⟨b, e2, e3⟩ := Option.map_eq_some_iff.mp h
      subst e3
      refine pE_ok k a ρ x e1 st X _ ?_
      show (match isT t (der st x) with
        | some k => Q (.bl k) st
        | none => False)
      rw [der_id (isT_no e2), e2]
      exact q
    · cases h
  | .lc fr elt tg it c own, ρ, d, h, st, X, Q, q => by
    unfold pE at h
    split at h
    · rename_i cf
      split at h
      · rename_i items e1
        split at h
        · rename_i hl
          obtain ⟨ys, e2, e3⟩ := Option.map_eq_some_iff.mp h
          subst e3
          refine pIt_ok k it ρ items e1 st X _ fun g hg => ?_
          refine pLc_ok hg (fun x o e st K hk => ?_) items [] ys e2 (by simpa using hl) st _ ?_
          · split at e
            · rename_i ρ1 t1
              refine tgP_ok t1 ?_
              split at e
              · rename_i t2
                refine pC_ok k c ρ1 _ t2 st X _ ?_
                rw [if_pos rfl]
                obtain ⟨y, t3, t4⟩ := Option.map_eq_some_iff.mp e
                subst t4
                exact pE_ok k elt ρ1 y t3 st X _ hk
              · rename_i t2
                cases e
                refine pC_ok k c ρ1 _ t2 st X _ ?_
                rw [if_neg (by decide)]
                exact hk
              · cases e
            · cases e
          · rw [if_pos cf]
            exact q
        · cases h
      · cases h
    · cases h
theorem pEs_ok (k : POk Pc Γ) : ∀ (es : Es) (ρ : Ev) (ds : List D), pEs Pc es ρ = some ds → ∀ st X (Q : List D → Store → Prop), Q ds st → wEs Γ es ρ st X Q
  | .nil, ρ, ds, h, st, X, Q, q => by cases h; exact q
  | .cons e es, ρ, ds, h, st, X, Q, q => by
    unfold pEs at h
    split at h
    · rename_i x e1
      obtain ⟨xs, e2, e3⟩ := Option.map_eq_some_iff.mp h
      subst e3
      exact pE_ok k e ρ x e1 st X _ (pEs_ok k es ρ xs e2 st X _ q)
    · cases h
theorem pAnd_ok (k : POk Pc Γ) : ∀ (es : Es) (ρ : Ev) (d : D), pAnd Pc es ρ = some d → ∀ st X Q, Q d st → wAnd Γ es ρ st X Q
  | .nil, ρ, d, h, st, X, Q, q => by cases h
  | .cons e .nil, ρ, d, h, st, X, Q, q => pE_ok k e ρ d h st X Q q
  | .cons e (.cons e' es), ρ, d, h, st, X, Q, q => by
    unfold pAnd at h
    split at h
    · rename_i e1
      refine pE_ok k e ρ _ e1 st X _ ?_
      show (if true = true then wAnd Γ (.cons e' es) ρ st X Q else Q (.bl false) st)
      rw [if_pos rfl]
      exact pAnd_ok k (.cons e' es) ρ d h st X Q q
    · rename_i e1
      cases h
      refine pE_ok k e ρ _ e1 st X _ ?_
      show (if false = true then wAnd Γ (.cons e' es) ρ st X Q else Q (.bl false) st)
      rw [if_neg (by decide)]
      exact q
    · cases h
theorem pOr_ok (k : POk Pc Γ) : ∀ (es : Es) (ρ : Ev) (d : D), pOr Pc es ρ = some d → ∀ st X Q, Q d st → wOr Γ es ρ st X Q
  | .nil, ρ, d, h, st, X, Q, q => by cases h
  | .cons e .nil, ρ, d, h, st, X, Q, q => pE_ok k e ρ d h st X Q q
  | .cons e (.cons e' es), ρ, d, h, st, X, Q, q => by
    unfold pOr at h
    split at h
    · rename_i e1
      cases h
      refine pE_ok k e ρ _ e1 st X _ ?_
      show (if true = true then Q (.bl true) st else wOr Γ (.cons e' es) ρ st X Q)
      rw [if_pos rfl]
      exact q
    · rename_i e1
      refine pE_ok k e ρ _ e1 st X _ ?_
      show (if false = true then Q (.bl true) st else wOr Γ (.cons e' es) ρ st X Q)
      rw [if_neg (by decide)]
      exact pOr_ok k (.cons e' es) ρ d h st X Q q
    · cases h
theorem pEo_ok (k : POk Pc Γ) : ∀ (e : Eo) (ρ : Ev) (o : Option Int), pEo Pc e ρ = some o → ∀ st X (Q : Option Int → Store → Prop), Q o st → wEo Γ e ρ st X Q
  | .none, ρ, o, h, st, X, Q, q => by cases h; exact q
  | .some e, ρ, o, h, st, X, Q, q => by
    unfold pEo at h
    split at h
    · rename_i e1
      cases h
      exact pE_ok k e ρ _ e1 st X _ q
    · cases h
theorem pC_ok (k : POk Pc Γ) : ∀ (e : Eo) (ρ : Ev) (b : Bool), pC Pc e ρ = some b → ∀ st X (Q : Bool → Store → Prop), Q b st → wC Γ e ρ st X Q
  | .none, ρ, o, h, st, X, Q, q => by cases h; exact q
  | .some e, ρ, o, h, st, X, Q, q => by
    unfold pC at h
    split at h
    · rename_i e1
      cases h
      exact pE_ok k e ρ _ e1 st X _ q
    · cases h
theorem pIt_ok (k : POk Pc Γ) : ∀ (it : It) (ρ : Ev) (items : List D), pIt Pc it ρ = some items → ∀ st X (Q : List D → (Store → Prop) → Store → Prop), (∀ g, (∀ st, g st) → Q items g st) → wIt Γ it ρ st X Q
  | .e a, ρ, items, h, st, X, Q, q => by
    unfold pIt at h
    split at h
    · rename_i x e1
      refine pE_ok k a ρ x e1 st X _ ⟨items, by rw [der_id (items_no h)]; exact h, q _ fun st' a e => ?_⟩
      have n := items_no h
      rw [e] at n
      cases n
    · cases h
  | .rng1 a, ρ, items, h, st, X, Q, q => by
    unfold pIt at h
    split at h
    · rename_i j e1
      split at h
      · rename_i c
        cases h
        exact pE_ok k a ρ _ e1 st X _ ⟨c, q _ fun _ => trivial⟩
      · cases h
    · cases h
  | .rng2 a b, ρ, items, h, st, X, Q, q => by
    unfold pIt at h
    split at h
    · rename_i i e1
      split at h
      · rename_i j e2
        split at h
        · rename_i c
          cases h
          exact pE_ok k a ρ _ e1 st X _ (pE_ok k b ρ _ e2 st X _ ⟨c, q _ fun _ => trivial⟩)
        · cases h
      · cases h
    · cases h
  | .enum a, ρ, items, h, st, X, Q, q => by cases h
  | .zip a b, ρ, items, h, st, X, Q, q => by cases h
end
/-- what an end is, for what was evaluated -/
def ReOk (R : En) (st : Store) : Re → Prop
  | .nx ρ => R.nx ρ st
  | .rt d => R.rt d st
  | .bk ρ => R.bk ρ st
theorem pFor_ok {tg : Tg} {body : Ev → Option Re} {B : Ev → Store → En → Prop} {g : Store → Prop} (hg : ∀ st, g st) (hb : ∀ ρ r, body ρ = some r → ∀ st R, ReOk R st r → B ρ st R) :
    ∀ (items : List D) (ρ : Ev) (r : Re), pFor tg body items ρ = some r → ∀ st R, ReOk R st r → forW g tg B items ρ st R
  | [], ρ, r, h, st, R, q => by
    cases h
    exact ⟨hg st, q⟩
  | x :: xs, ρ, r, h, st, R, q => by
    unfold pFor at h
    split at h
    · rename_i ρ1 e1
      refine ⟨hg st, tgP_ok e1 ?_⟩
      split at h
      · rename_i ρ2 e2
        exact hb _ _ e2 st _ (pFor_ok hg hb xs ρ2 r h st R q)
      · rename_i e2
        cases h
        exact hb _ _ e2 st _ q
      · rename_i e2
        cases h
        exact hb _ _ e2 st _ q
      · cases h
    · cases h
theorem pWhile_ok {c : Ev → Option Bool} {body : Ev → Option Re} {C : Ev → Store → (Bool → Store → Prop) → Prop} {B : Ev → Store → En → Prop} (hc : ∀ ρ b, c ρ = some b → ∀ st K, K b st → C ρ st K) (hb : ∀ ρ r, body ρ = some r → ∀ st R, ReOk R st r → B ρ st R)
    (n : Nat) (ρ : Ev) (r : Re) (h : pWhile c body n ρ = some r) (st : Store) (R : En) (q : ReOk R st r) : whileW C B ρ st R := by
  refine ⟨fun m ρ' st' => st' = st ∧ pWhile c body m ρ' = some r, ⟨n, rfl, h⟩, fun m ρ' st' ⟨e, h⟩ => ?_⟩
  subst e
  cases m with
  | zero => cases h
  | succ m =>
    unfold pWhile at h
    split at h
    · rename_i e1
      refine hc _ _ e1 st' _ ?_
      rw [if_pos rfl]
      split at h
      · rename_i ρ2 e2
        exact hb _ _ e2 st' _ ⟨m, Nat.lt_succ_self m, rfl, h⟩
      · rename_i e2
        cases h
        exact hb _ _ e2 st' _ q
      · rename_i e2
        cases h
        exact hb _ _ e2 st' _ q
      · cases h
    · rename_i e1
      cases h
      refine hc _ _ e1 st' _ ?_
      rw [if_neg (by decide)]
      exact q
    · cases h
mutual
theorem pS_ok (k : POk Pc Γ) : ∀ (s : S) (ρ : Ev) (r : Re), pS Pc s ρ = some r → ∀ st X R, ReOk R st r → wS Γ s ρ st X R
  | .asg tg e, ρ, r, h, st, X, R, q => by
    unfold pS at h
    split at h
    · rename_i x e1
      obtain ⟨ρ1, e2, e3⟩ := Option.map_eq_some_iff.mp h
      subst e3
      exact pE_ok k e ρ x e1 st X _ (tgP_ok e2 q)
    · cases h
  | .par is es, ρ, r, h, st, X, R, q => by
    unfold pS at h
    split at h
    · rename_i xs e1
      obtain ⟨ρ1, e2, e3⟩ := Option.map_eq_some_iff.mp h
      subst e3
      exact pEs_ok k es ρ xs e1 st X _ ⟨ρ1, e2, q⟩
    · cases h
  | .setix o i e, ρ, r, h, st, X, R, q => by cases h
  | .aug i o e, ρ, r, h, st, X, R, q => by
    unfold pS at h
    split at h
    · rename_i x e1
      split at h
      · rename_i y e2
        obtain ⟨z, e3, e4⟩ := Option.map_eq_some_iff.mp h
        subst e4
        exact ⟨x, e1, pE_ok k e ρ y e2 st X _ (augP_ok e3 q)⟩
      · cases h
    · cases h
  | .augix o i op e, ρ, r, h, st, X, R, q => by cases h
  | .ex e, ρ, r, h, st, X, R, q => by
    obtain ⟨x, e1, e2⟩ := Option.map_eq_some_iff.mp (show (pE Pc e ρ).map (fun _ => Re.nx ρ) = some r from h)
    subst e2
    exact pE_ok k e ρ x e1 st X _ q
  | .ret e, ρ, r, h, st, X, R, q => by
    obtain ⟨x, e1, e2⟩ := Option.map_eq_some_iff.mp (show (pE Pc e ρ).map Re.rt = some r from h)
    subst e2
    exact pE_ok k e ρ x e1 st X _ q
  | .ret0, ρ, r, h, st, X, R, q => by
    cases h
    exact q
  | .ife c a b, ρ, r, h, st, X, R, q => by
    unfold pS at h
    split at h
    · rename_i e1
      refine pE_ok k c ρ _ e1 st X _ ?_
      show (if true = true then wSs Γ a ρ st X R else wSs Γ b ρ st X R)
      rw [if_pos rfl]
      exact pSs_ok k a ρ r h st X R q
    · rename_i e1
      refine pE_ok k c ρ _ e1 st X _ ?_
      show (if false = true then wSs Γ a ρ st X R else wSs Γ b ρ st X R)
      rw [if_neg (by decide)]
      exact pSs_ok k b ρ r h st X R q
    · cases h
  | .for_ tg it b, ρ, r, h, st, X, R, q => by
    unfold pS at h
    split at h
    · rename_i items e1
      exact pIt_ok k it ρ items e1 st X _ fun g hg => pFor_ok hg (fun ρ r h st R q => pSs_ok k b ρ r h st X R q) items ρ r h st R q
    · cases h
  | .while_ c b, ρ, r, h, st, X, R, q => by
    unfold pS at h
    refine pWhile_ok (C := fun ρ st K => wE Γ c ρ st X fun x st => match x with
      | .bl k => K k st
      | _ => False) (fun ρ b e st K hk => ?_) (fun ρ r h st R q => pSs_ok k b ρ r h st X R q) turns ρ r h st R q
    split at e
    · rename_i e1
      cases e
      exact pE_ok k c ρ _ e1 st X _ hk
    · cases e
  | .brk, ρ, r, h, st, X, R, q => by
    cases h
    exact q
  | .pass, ρ, r, h, st, X, R, q => by
    cases h
    exact q
  | .raise_ cls e, ρ, r, h, st, X, R, q => by cases h
theorem pSs_ok (k : POk Pc Γ) : ∀ (ss : Ss) (ρ : Ev) (r : Re), pSs Pc ss ρ = some r → ∀ st X R, ReOk R st r → wSs Γ ss ρ st X R
  | .nil, ρ, r, h, st, X, R, q => by
    cases h
    exact q
  | .cons s ss, ρ, r, h, st, X, R, q => by
    unfold pSs at h
    split at h
    · rename_i ρ1 e1
      exact pS_ok k s ρ _ e1 st X _ (pSs_ok k ss ρ1 r h st X R q)
    · rename_i n
      refine pS_ok k s ρ r h st X _ ?_
      cases r with
      | nx ρ1 => exact absurd h (n ρ1)
      | rt d => exact q
      | bk ρ1 => exact q
end
end
theorem callN_open {G : Pg} {n : Nat} {f : Str} {d : Df} {xs : List D} {st : Store} {X : XK} {Q : QD} (h : G.defs.lookup f = some d) (hl : xs.length = d.np) (w : wSs (ctxN G n) d.body (env0 d.nn xs) st X ⟨fun _ st => Q .non st, Q, fun _ _ => False⟩) : callN G (n + 1) f xs st X Q := by
  show (match G.defs.lookup f with
    | some d => xs.length = d.np ∧ wSs ⟨callN G n, G.glb, G.kw⟩ d.body (env0 d.nn xs) st X ⟨fun _ st => Q .non st, Q, fun _ _ => False⟩
    | none => False)
  rw [h]
  exact ⟨hl, w⟩
/-- a call that is evaluated -/
theorem run_ok {G : Pg} : ∀ (n : Nat) (f : Str) (xs : List D) (d : D), runN G n f xs = some d → ∀ st X Q, Q d st → callN G n f xs st X Q
  | 0, f, xs, d, h, st, X, Q, q => by cases h
  | n + 1, f, xs, d, h, st, X, Q, q => by
    unfold runN at h
    split at h
    · rename_i df e
      split at h
      · rename_i hl
        refine callN_open e hl ?_
        cases e2 : pSs ⟨runN G n, G.glb, G.kw⟩ df.body (env0 df.nn xs) with
        | none => rw [e2] at h; cases h
        | some r =>
          rw [e2] at h
          refine pSs_ok (Pc := ⟨runN G n, G.glb, G.kw⟩) ⟨fun f xs d h st X Q q => run_ok n f xs d h st X Q q, rfl, rfl⟩ df.body _ r e2 st X _ ?_
          cases r with
          | nx ρ =>
            cases h
            exact q
          | rt d =>
            cases h
            exact q
          | bk ρ => cases h
      · cases h
    · cases h
end Mi
/-! ## M15: the head's facts, for M0's constants and defs -/
namespace Mi
open PySem PySem.Spec PyProof.Rows L2
mutual
/-- the value u is what d tells -/
def relD (K : PySem.W.Frag) : D → Value → Bool
  | .non, .none => true
  | .bl b, .bool c => b == c
  | .int i, .int j _ => decide (i = j)
  | .str x, .str y _ => decide (x = y)
  | .tup ds, .ref a => (match K.lookup a with
    | some ⟨.type c, _, .seq its _, _⟩ => decide (c = "tuple") && (decide (its.size ≤ 100000) && relDs K ds its.toList)
    | _ => false)
  | .ro ds, .ref a => (match K.lookup a with
    | some ⟨.type c, none, .seq its _, _⟩ => decide (c = "list") && (decide (its.size ≤ 100000) && relDs K ds its.toList)
    | _ => false)
  | .glo x, .ref a => (match PySem.W.nsIn K mainGlobals x with
    | some (some (.ref b)) => a == b
    | _ => false)
  | _, _ => false
def relDs (K : PySem.W.Frag) : List D → List Value → Bool
  | [], [] => true
  | d :: ds, u :: us => relD K d u && relDs K ds us
  | _, _ => false
end
def gvOf (K : PySem.W.Frag) (w : World) : GV := ⟨fun x => match PySem.W.nsIn K mainGlobals x with
  | some (some (.ref b)) => some b
  | _ => none, w⟩
mutual
theorem relD_ok {K : PySem.W.Frag} {w : World} : ∀ (d : D) (u : Value), relD K d u = true → ∃ v, RelV v u ∧ ∀ F H st, RD F K (gvOf K w) H st d v
  | .non, u, h => by
    cases u <;> first | (simp [relD] at h; done) | skip
    exact ⟨.non, rfl, fun F H st => .non⟩
  | .bl b, u, h => by
    cases u <;> first | (simp [relD] at h; done) | skip
    rename_i c
    have e := eq_of_beq (show (b == c) = true from h)
    subst e
    exact ⟨.bl b, rfl, fun F H st => .bl b⟩
  | .int i, u, h => by
    cases u <;> first | (simp [relD] at h; done) | skip
    rename_i j t
    have e := of_decide_eq_true (show decide (i = j) = true from h)
    subst e
    exact ⟨.int i, ⟨t, rfl⟩, fun F H st => .int i⟩
  | .str x, u, h => by
    cases u <;> first | (simp [relD] at h; done) | skip
    rename_i y t
    have e := of_decide_eq_true (show decide (x = y) = true from h)
    subst e
    exact ⟨.str x, ⟨t, rfl⟩, fun F H st => .str x⟩
  | .tup ds, u, h => by
    cases u <;> first | (simp [relD] at h; done) | skip
    rename_i a
    unfold relD at h
    split at h
    · rename_i c od its n sl e
      obtain ⟨h1, h2⟩ := ands h
      obtain ⟨h2, h3⟩ := ands h2
      obtain ⟨vs, r, k⟩ := relDs_ok (w := w) ds its.toList h3
      have hz := of_decide_eq_true h2
      have hc := of_decide_eq_true h1
      exact ⟨.ref a, rfl, fun F H st => .tup (.inl ⟨_, its, n, e, by rw [hc], rfl, by rw [sizeLine_eq]; omega, r⟩) (k F H st)⟩
    · cases h
  | .ro ds, u, h => by
    cases u <;> first | (simp [relD] at h; done) | skip
    rename_i a
    unfold relD at h
    split at h
    · rename_i c its n sl e
      obtain ⟨h1, h2⟩ := ands h
      obtain ⟨h2, h3⟩ := ands h2
      obtain ⟨vs, r, k⟩ := relDs_ok (w := w) ds its.toList h3
      have hz := of_decide_eq_true h2
      have hc := of_decide_eq_true h1
      exact ⟨.ref a, rfl, fun F H st => .ro (.inl ⟨_, its, n, e, by rw [hc], rfl, rfl, by rw [sizeLine_eq]; omega, r⟩) (k F H st)⟩
    · cases h
  | .glo x, u, h => by
    cases u <;> first | (simp [relD] at h; done) | skip
    rename_i a
    unfold relD at h
    split at h
    · rename_i b e
      have e2 := eq_of_beq h
      subst e2
      refine ⟨.ref a, rfl, fun F H st => .glo ?_⟩
      show (match PySem.W.nsIn K mainGlobals x with
        | some (some (.ref b)) => some b
        | _ => none) = some a
      rw [e]
    · cases h
  | .lst _, u, h => by cases u <;> (simp [relD] at h)
  | .dct _ _, u, h => by cases u <;> (simp [relD] at h)
  | .loc _, u, h => by cases u <;> (simp [relD] at h)
  | .tab _ _, u, h => by cases u <;> (simp [relD] at h)
theorem relDs_ok {K : PySem.W.Frag} {w : World} : ∀ (ds : List D) (us : List Value), relDs K ds us = true → ∃ vs, Vals vs us ∧ ∀ F H st, RDs F K (gvOf K w) H st ds vs
  | [], [], _ => ⟨[], .nil, fun _ _ _ => .nil⟩
  | [], _ :: _, h => by cases h
  | _ :: _, [], h => by cases h
  | d :: ds, u :: us, h => by
    obtain ⟨h1, h2⟩ := ands (show (relD K d u && relDs K ds us) = true from h)
    obtain ⟨v, r, k⟩ := relD_ok (w := w) d u h1
    obtain ⟨vs, r2, k2⟩ := relDs_ok (w := w) ds us h2
    exact ⟨v :: vs, .cons r r2, fun F H st => .cons (k F H st) (k2 F H st)⟩
end
/-! ### tables -/
theorem dic_keys {P : Params} : ∀ {l : List DictEntry} {ks : List Str}, l.map He.keyOf = He.keysIn P ks → ∀ e ∈ l, ∃ x t, e.key = .str x t ∧ x ∈ ks
  | [], _, _, e, he => by cases he
  | e0 :: r, [], h, e, he => by cases h
  | e0 :: r, k :: ks, h, e, he => by
    have h1 : He.keyOf e0 :: r.map He.keyOf = some (k, PyData.keyHash P k) :: He.keysIn P ks := h
    injection h1 with h2 h3
    rcases List.mem_cons.mp he with z | z
    · subst z
      unfold He.keyOf at h2
      split at h2
      · rename_i x t q
        have h4 := (Prod.mk.inj (Option.some.inj h2)).1
        exact ⟨x, t, q, by rw [h4]; exact List.mem_cons_self⟩
      · cases h2
    · obtain ⟨x, t, q, hx⟩ := dic_keys h3 e z
      exact ⟨x, t, q, List.mem_cons_of_mem _ hx⟩
theorem tab_absent {K : PySem.W.Frag} {P : Params} {a : Addr} {ks : List Str} (h : He.dicW K a = some (He.keysIn P ks)) {z : Str} (hz : z ∉ ks) : PySem.W.nsIn K a z = some none := by
  unfold He.dicW at h
  split at h
  · rename_i c es n sl e
    split at h
    · have hk := dic_keys (Option.some.inj h)
      unfold PySem.W.nsIn
      rw [e]
      have h1 : es.toList.find? (·.key.isStr z) = none := by
        rw [List.find?_eq_none]
        intro x hx
        obtain ⟨y, t, q, hy⟩ := hk x hx
        rw [q]
        intro z2
        have z3 : y = z := by simpa [Value.isStr] using z2
        exact hz (z3 ▸ hy)
      have h2 : es.toList.any (·.refKey) = false := by
        rw [List.any_eq_false]
        intro x hx
        obtain ⟨y, t, q, hy⟩ := hk x hx
        unfold DictEntry.refKey
        rw [q]
        exact fun z => nomatch z
      simp only [h1, h2]
      rfl
    · cases h
  · cases h
/-- a table's values, by its keys -/
def tabVs (K : PySem.W.Frag) (a : Addr) : List Str → List D → Bool
  | [], [] => true
  | k :: ks, d :: ds => !(ks.contains k) && (match PySem.W.nsIn K a k with
    | some (some u) => relD K d u
    | _ => false) && tabVs K a ks ds
  | _, _ => false
theorem tabVs_ok {K : PySem.W.Frag} {w : World} {a : Addr} : ∀ (ks : List Str) (ds : List D), tabVs K a ks ds = true → ∃ us vs, ks.length = us.length ∧ Vals vs us ∧ (∀ F H st, RDs F K (gvOf K w) H st ds vs) ∧
    ∀ z ∈ ks, PySem.W.nsIn K a z = some ((ks.zip us).lookup z)
  | [], [], _ => ⟨[], [], rfl, .nil, fun _ _ _ => .nil, fun z hz => by cases hz⟩
  | [], _ :: _, h => by cases h
  | _ :: _, [], h => by cases h
  | k :: ks, d :: ds, h => by
    unfold tabVs at h
    obtain ⟨h, h3⟩ := ands h
    obtain ⟨h1, h2⟩ := ands h
    split at h2
    · rename_i u e
      obtain ⟨v, r, kd⟩ := relD_ok (w := w) d u h2
      obtain ⟨us, vs, l, r2, k2, g⟩ := tabVs_ok (w := w) ks ds h3
      refine ⟨u :: us, v :: vs, congrArg Nat.succ l, .cons r r2, fun F H st => .cons (kd F H st) (k2 F H st), fun z hz => ?_⟩
      rw [List.zip_cons_cons, List.lookup_cons]
      cases q : z == k with
      | true =>
        have e2 := eq_of_beq q
        subst e2
        exact e
      | false =>
        rcases List.mem_cons.mp hz with z2 | z2
        · subst z2
          simp at q
        · exact g z z2
    · cases h2
theorem tab_ok {K : PySem.W.Frag} {w : World} {a : Addr} {ks : List Str} {ds : List D} (kd : ∃ es n, KDict K w a es n) (h : He.dicW K a = some (He.keysIn w.params ks)) (hv : tabVs K a ks ds = true) : ∀ F H st, ∃ v, RelV v (.ref a) ∧ RD F K (gvOf K w) H st (.tab ks ds) v := by
  obtain ⟨us, vs, l, r, k, g⟩ := tabVs_ok (w := w) ks ds hv
  refine fun F H st => ⟨.ref a, rfl, .tab ⟨kd, l, fun z => ?_⟩ r (k F H st)⟩
  by_cases hz : z ∈ ks
  · exact g z hz
  · rw [tab_absent h hz]
    have e := zip_look l z
    have e2 : ks.contains z = false := by simpa using hz
    rw [e2] at e
    cases q : (ks.zip us).lookup z with
    | none => rfl
    | some u =>
      rw [q] at e
      cases e
/-! ### constants -/
/-- the constants that are no tables -/
def glbB (K : PySem.W.Frag) : Str × D → Bool := fun p => match PySem.W.nsIn K mainGlobals p.1 with
  | some (some u) => relD K p.2 u
  | _ => false
def tabB (K : PySem.W.Frag) : Str × List Str × List D → Bool := fun p => He.eqO (PySem.W.nsIn K mainGlobals p.1) (some (some (.ref (He.ga K p.1)))) && tabVs K (He.ga K p.1) p.2.1 p.2.2
def freeB (K : PySem.W.Frag) : Str → Bool := fun x => match PySem.W.nsIn K mainGlobals x with
  | some none => true
  | _ => false
/-- all that is asked of the heap behind the top, beyond the defs -/
def exB (gl : List (Str × D)) (tl : List (Str × List Str × List D)) (K : PySem.W.Frag) : Bool := gl.all (glbB K) && (tl.all (tabB K) && bltNames.all (freeB K))
def tabsOf (tl : List (Str × List Str × List D)) : List He.Tab := tl.map fun p => ((fun K => He.ga K p.1), p.2.1)
def glbOf (gl : List (Str × D)) (tl : List (Str × List Str × List D)) : Str → Option D := fun x => match gl.lookup x with
  | some d => some d
  | none => (tl.lookup x).map fun p => .tab p.1 p.2
theorem mem_look {α : Type} {x : Str} {d : α} : ∀ {l : List (Str × α)}, l.lookup x = some d → (x, d) ∈ l
  | [], h => by cases h
  | (y, e) :: l, h => by
    rw [List.lookup_cons] at h
    cases q : x == y with
    | true =>
      rw [q] at h
      have e2 := eq_of_beq q
      cases h
      rw [e2]
      exact List.mem_cons_self
    | false =>
      rw [q] at h
      exact List.mem_cons_of_mem _ (mem_look h)
theorem tabs_eq {fa : List He.Fa} {fn : List He.DefD} {ts : List He.Tab} {w : World} {K : PySem.W.Frag} (c : He.SaysT fa fn ts w K) {t : He.Tab} (h : t ∈ ts) : He.dicW K (t.1 K) = some (He.keysIn w.params t.2) ∧ ∃ es n, KDict K w (t.1 K) es n := by
  have e : ts.map (fun t => He.dicW K (t.1 K)) = ts.map fun t => some (He.keysIn w.params t.2) := congrArg (fun z : He.AlT => z.2) c
  have e2 : He.dicW K (t.1 K) = some (He.keysIn w.params t.2) := by
    obtain ⟨i, hi, e3⟩ := List.mem_iff_getElem.mp h
    have e4 : (ts.map (fun t => He.dicW K (t.1 K)))[i]? = (ts.map fun t => some (He.keysIn w.params t.2))[i]? := by rw [e]
    rw [List.getElem?_map, List.getElem?_map, List.getElem?_eq_getElem hi, e3] at e4
    exact Option.some.inj e4
  exact ⟨e2, He.dicW_ok e2⟩
theorem gok_of {G : Pg} {fa : List He.Fa} {fn : List He.DefD} {gl : List (Str × D)} {tl : List (Str × List Str × List D)} {w : World} {h : Heap} {K : PySem.W.Frag} {mg : Str → Option Value} (X : K.In h) (N : h.Ns mainGlobals mg) (hg : G.glb = glbOf gl tl)
    (c : He.SaysT fa fn (tabsOf tl) w K) (ex : exB gl tl K = true) (F : ∀ f d, G.defs.lookup f = some d → ∃ a fd ps, DOk G K mg (G.defs.map (·.1)) f d a fd ps) : GOk G (gvOf K w) w K mg := by
  obtain ⟨h1, h2⟩ := ands ex
  obtain ⟨h2, h3⟩ := ands h2
  refine ⟨rfl, F, fun x d e => ?_, fun x hx => ?_⟩
  · rw [hg] at e
    unfold glbOf at e
    split at e
    · rename_i d' e1
      cases e
      have k := List.all_eq_true.mp h1 _ (mem_look e1)
      unfold glbB at k
      split at k
      · rename_i u e2
        obtain ⟨v, r, rd⟩ := relD_ok (w := w) d u k
        exact ⟨u, v, PySem.W.mg_of X N e2, r, fun F H st _ => rd F H st⟩
      · cases k
    · obtain ⟨p, e1, e2⟩ := Option.map_eq_some_iff.mp e
      subst e2
      have m := mem_look e1
      have k := List.all_eq_true.mp h2 _ m
      obtain ⟨k1, k2⟩ := ands k
      obtain ⟨t1, t2⟩ := tabs_eq c (t := ((fun K => He.ga K x), p.1)) (List.mem_map.mpr ⟨_, m, rfl⟩)
      have q := tab_ok t2 t1 k2
      refine ⟨.ref (He.ga K x), .ref (He.ga K x), PySem.W.mg_of X N (He.eqO_ok k1), rfl, fun F H st _ => ?_⟩
      obtain ⟨v, r, rd⟩ := q F H st
      cases v <;> first | (cases rd; done) | skip
      cases r
      exact rd
  · have k := List.all_eq_true.mp h3 _ hx
    unfold freeB at k
    split at k
    · rename_i e
      exact PySem.W.mg_none_of X N e
    · cases k
/-! ### defs -/
/-- how keywords come to places, as a list by def -/
abbrev KwL : Type := List (Str × List ((Nat × List Str) × List Nat))
def kwOf (l : KwL) : Str → Nat → List Str → List Nat := fun f m ks => match l.lookup f with
  | some r => (r.lookup (m, ks)).getD []
  | none => []
theorem kw_none {l : KwL} {f : Str} (h : l.lookup f = none) (m : Nat) (ks : List Str) : kwOf l f m ks = [] := by
  unfold kwOf
  rw [h]
theorem kw_some {l : KwL} {f : Str} {r : List ((Nat × List Str) × List Nat)} (h : l.lookup f = some r) {m : Nat} {ks : List Str} (ne : kwOf l f m ks ≠ []) : ((m, ks), kwOf l f m ks) ∈ r := by
  unfold kwOf at ne ⊢
  rw [h] at ne ⊢
  cases q : r.lookup (m, ks) with
  | none =>
    have ne2 : (r.lookup (m, ks)).getD [] ≠ [] := ne
    rw [q] at ne2
    exact absurd rfl ne2
  | some is =>
    have go : ∀ {r : List ((Nat × List Str) × List Nat)}, r.lookup (m, ks) = some is → ((m, ks), is) ∈ r := fun {r} => by
      induction r with
      | nil => exact fun z => nomatch z
      | cons p r ih =>
        intro z
        rw [List.lookup_cons] at z
        cases q : (m, ks) == p.1 with
        | true =>
          rw [q] at z
          have e2 := eq_of_beq q
          cases z
          rw [e2]
          exact List.mem_cons_self
        | false =>
          rw [q] at z
          exact List.mem_cons_of_mem _ (ih z)
    simp only [q, Option.getD_some]
    exact go q
theorem pick_vals {vs : List V} {us : List Value} (h : Vals vs us) : ∀ is : List Nat, Vals (pickL is vs) (pickL is us)
  | [] => .nil
  | i :: is => by
    have ih := pick_vals h is
    unfold pickL at ih ⊢
    rw [List.filterMap_cons, List.filterMap_cons]
    cases q : vs[i]? with
    | none =>
      have e : us[i]? = none := List.getElem?_eq_none (by rw [← h.length]; exact List.getElem?_eq_none_iff.mp q)
      rw [e]
      exact ih
    | some d =>
      obtain ⟨v, e, rd⟩ := h.get q
      rw [e]
      exact .cons rd ih
/-- a call with keywords of a def without defaults -/
theorem kbN {K : PySem.W.Frag} {x qual : Str} {params : Arguments} {body : List Stmt} {scope : Scope} {f : Addr} {fd : FuncData} {ps : List Str} (F : FunD K x qual params body scope [] [] f fd) (n : Nat) (ks : List Str) (is : List Nat)
    (h : ∀ (kV doc pm : Value) (an : Option Addr) (cdv ct : Value) (us ws : List Value), us.length = n → ws.length = ks.length → bindArgs (PySem.W.fnOf x qual params body scope .none kV doc pm an cdv ct) ⟨us, ks.zip ws⟩ = pure (ps.zip (pickL is (us ++ ws)))) :
    KBn K fd ps n ks (fun us ws => pickL is (us ++ ws)) (fun us ws => pickL is (us ++ ws)) := by
  obtain ⟨oc, od, dV, kV, doc, pm, an, cdv, ct, osl, rfl, lk, hcd, hD, hK⟩ := F.ex
  rcases hD with ⟨_, rfl⟩ | ⟨e, _⟩
  · exact ⟨fun s us ws X l1 l2 => .of_eq (h kV doc pm an cdv ct us ws l1 l2), fun r1 r2 => pick_vals (r1.append r2) is⟩
  · exact absurd rfl e
end Mi
/-! ## M16: tools for contracts -/
namespace Mi
open PySem
theorem runN_open {G : Pg} {n : Nat} {f : Str} {d : Df} {xs : List D} (h : G.defs.lookup f = some d) (hl : xs.length = d.np) : runN G (n + 1) f xs = outP (pSs ⟨runN G n, G.glb, G.kw⟩ d.body (env0 d.nn xs)) := by
  show (match G.defs.lookup f with
    | some d => if xs.length = d.np then outP (pSs ⟨runN G n, G.glb, G.kw⟩ d.body (env0 d.nn xs)) else none
    | none => none) = _
  rw [h]
  exact if_pos hl
theorem pLc_map {turn : D → Option (Option D)} (g : D → D) : ∀ xs : List D, (∀ x ∈ xs, turn x = some (some (g x))) → pLc turn xs = some (xs.map g)
  | [], _ => rfl
  | x :: xs, h => by
    unfold pLc
    rw [h x List.mem_cons_self]
    simp only
    rw [pLc_map g xs fun y hy => h y (List.mem_cons_of_mem _ hy)]
    rfl
theorem pLc_filter {turn : D → Option (Option D)} (g : D → D) (p : D → Bool) : ∀ xs : List D, (∀ x ∈ xs, turn x = some (if p x = true then some (g x) else none)) → pLc turn xs = some ((xs.filter p).map g)
  | [], _ => rfl
  | x :: xs, h => by
    unfold pLc
    rw [h x List.mem_cons_self, pLc_filter g p xs fun y hy => h y (List.mem_cons_of_mem _ hy), List.filter_cons]
    cases p x <;> rfl
/-- items that are made, each with its own state -/
theorem lcW_inv {g : Store → Prop} {turn : D → Store → (Option D → Store → Prop) → Prop} (I : Nat → Store → Prop) (P : D → Prop) (hg : ∀ st, g st) : ∀ (items : List D) (acc : List D) (st : Store) (Q : List D → Store → Prop), (∀ x ∈ items, ∀ k st K, I (k + 1) st → (∀ y st', P y → I k st' → K (some y) st') → turn x st K) →
    I items.length st → acc.length + items.length ≤ big → (∀ ys st', ys.length = items.length → (∀ y ∈ ys, P y) → I 0 st' → Q (acc ++ ys) st') → lcW g turn items acc st Q
  | [], acc, st, Q, ht, hi, hb, q => ⟨hg st, by
      have := q [] st rfl (fun y hy => by cases hy) hi
      rwa [List.append_nil] at this⟩
  | x :: xs, acc, st, Q, ht, hi, hb, q => by
    have hb : acc.length + (xs.length + 1) ≤ big := hb
    refine ⟨hg st, ht x List.mem_cons_self xs.length st _ hi fun y st' py hi' => ⟨by omega, ?_⟩⟩
    refine lcW_inv I P hg xs (acc ++ [y]) st' Q (fun z hz => ht z (List.mem_cons_of_mem _ hz)) hi' (by simp; omega) fun ys st2 l hp hi2 => ?_
    have := q (y :: ys) st2 (congrArg Nat.succ l) (fun z hz => (List.mem_cons.mp hz).elim (fun e => e ▸ py) (hp z)) hi2
    rwa [List.append_assoc]
/-- a for whose every turn keeps I -/
theorem forW_inv {g : Store → Prop} {tg : Tg} {body : Ev → Store → En → Prop} (I : Nat → Ev → Store → Prop) (hg : ∀ st, g st) : ∀ (items : List D) (ρ : Ev) (st : Store) (R : En), (∀ x ∈ items, ∀ k ρ st R', I (k + 1) ρ st → (∀ ρ' st', I k ρ' st' → R'.nx ρ' st') → R'.rt = R.rt → R'.bk = R.nx → tgW tg x ρ st fun ρ st => body ρ st R') →
    I items.length ρ st → (∀ ρ' st', I 0 ρ' st' → R.nx ρ' st') → forW g tg body items ρ st R
  | [], ρ, st, R, ht, hi, q => ⟨hg st, q ρ st hi⟩
  | x :: xs, ρ, st, R, ht, hi, q => ⟨hg st, ht x List.mem_cons_self xs.length ρ st ⟨fun ρ st => forW g tg body xs ρ st R, R.rt, R.nx⟩ hi (fun ρ' st' hi' => forW_inv I hg xs ρ' st' R (fun z hz => ht z (List.mem_cons_of_mem _ hz)) hi' q) rfl rfl⟩
/-! ### one step of evaluation -/
section
variable {Γ : PC} {ρ : Ev} {e a b c d : E} {es ks : Es}
@[simp] theorem pE_v (i : Nat) : pE Γ (.v i) ρ = lk ρ i := rfl
@[simp] theorem pE_int (i : Int) : pE Γ (.int i) ρ = some (.int i) := rfl
@[simp] theorem pE_str (i : Str) : pE Γ (.str i) ρ = some (.str i) := rfl
@[simp] theorem pE_bl (i : Bool) : pE Γ (.bl i) ρ = some (.bl i) := rfl
@[simp] theorem pE_non : pE Γ .non ρ = some .non := rfl
@[simp] theorem pE_glb (x : Str) : pE Γ (.glb x) ρ = Γ.glb x := rfl
@[simp] theorem pE_bin (o : Op2) : pE Γ (.bin o a b) ρ = (match pE Γ a ρ with
    | some x => match pE Γ b ρ with
      | some y => binP o x y
      | none => none
    | none => none) := rfl
@[simp] theorem pE_neg : pE Γ (.neg a) ρ = (match pE Γ a ρ with
    | some (.int i) => some (.int (-i))
    | _ => none) := rfl
@[simp] theorem pE_cmp (o : Cm) : pE Γ (.cmp o a b) ρ = (match pE Γ a ρ with
    | some x => match pE Γ b ρ with
      | some y => (cmpP o x y).map .bl
      | none => none
    | none => none) := rfl
@[simp] theorem pE_chain (o o' : Cm) : pE Γ (.chain o o' a b c) ρ = (match pE Γ a ρ with
    | some x => match pE Γ b ρ with
      | some y => match cmpP o x y with
        | some true => match pE Γ c ρ with
          | some z => (cmpP o' y z).map .bl
          | none => none
        | some false => some (.bl false)
        | none => none
      | none => none
    | none => none) := rfl
@[simp] theorem pE_and : pE Γ (.and_ es) ρ = pAnd Γ es ρ := rfl
@[simp] theorem pE_or : pE Γ (.or_ es) ρ = pOr Γ es ρ := rfl
@[simp] theorem pE_not : pE Γ (.not_ a) ρ = (match pE Γ a ρ with
    | some (.bl b) => some (.bl !b)
    | _ => none) := rfl
@[simp] theorem pE_ife : pE Γ (.ife c a b) ρ = (match pE Γ c ρ with
    | some (.bl true) => pE Γ a ρ
    | some (.bl false) => pE Γ b ρ
    | _ => none) := rfl
@[simp] theorem pE_ix : pE Γ (.ix a b) ρ = (match pE Γ a ρ with
    | some x => match pE Γ b ρ with
      | some k => ixP x k
      | none => none
    | none => none) := rfl
@[simp] theorem pE_sl (lo hi : Eo) : pE Γ (.sl a lo hi) ρ = (match pE Γ a ρ with
    | some x => match pEo Γ lo ρ with
      | some l => match pEo Γ hi ρ with
        | some h => slP x l h
        | none => none
      | none => none
    | none => none) := rfl
@[simp] theorem pE_tup : pE Γ (.tup es) ρ = (pEs Γ es ρ).map .tup := rfl
@[simp] theorem pE_lst : pE Γ (.lst true es) ρ = (pEs Γ es ρ).map .lst := rfl
@[simp] theorem pE_dic : pE Γ (.dic true .nil .nil) ρ = some (.dct [] []) := rfl
@[simp] theorem pE_call (f : Str) : pE Γ (.call f es) ρ = (match pEs Γ es ρ with
    | some xs => Γ.call f xs
    | none => none) := rfl
@[simp] theorem pE_callk (f : Str) (n : Nat) (kk : List Str) : pE Γ (.callk f es n kk ks) ρ = (match pEs Γ es ρ with
    | some xs => match pEs Γ ks ρ with
      | some ys => if xs.length = n ∧ ys.length = kk.length then Γ.call f (pickL (Γ.kw f n kk) (xs ++ ys)) else none
      | none => none
    | none => none) := rfl
@[simp] theorem pE_bi (f : Bi) : pE Γ (.bi f es) ρ = (match pEs Γ es ρ with
    | some xs => biP f xs
    | none => none) := rfl
@[simp] theorem pE_isi (t : Ty) : pE Γ (.isi a t) ρ = (match pE Γ a ρ with
    | some x => (isT t x).map .bl
    | none => none) := rfl
@[simp] theorem pEs_nil : pEs Γ .nil ρ = some [] := rfl
@[simp] theorem pEs_cons : pEs Γ (.cons e es) ρ = (match pE Γ e ρ with
    | some x => (pEs Γ es ρ).map (x :: ·)
    | none => none) := rfl
@[simp] theorem pAnd_one : pAnd Γ (.cons e .nil) ρ = pE Γ e ρ := rfl
@[simp] theorem pAnd_cons : pAnd Γ (.cons e (.cons a es)) ρ = (match pE Γ e ρ with
    | some (.bl true) => pAnd Γ (.cons a es) ρ
    | some (.bl false) => some (.bl false)
    | _ => none) := rfl
@[simp] theorem pOr_one : pOr Γ (.cons e .nil) ρ = pE Γ e ρ := rfl
@[simp] theorem pOr_cons : pOr Γ (.cons e (.cons a es)) ρ = (match pE Γ e ρ with
    | some (.bl true) => some (.bl true)
    | some (.bl false) => pOr Γ (.cons a es) ρ
    | _ => none) := rfl
@[simp] theorem pEo_none : pEo Γ .none ρ = some none := rfl
@[simp] theorem pEo_some : pEo Γ (.some e) ρ = (match pE Γ e ρ with
    | some (.int i) => some (some i)
    | _ => none) := rfl
@[simp] theorem pC_none : pC Γ .none ρ = some true := rfl
@[simp] theorem pC_some : pC Γ (.some e) ρ = (match pE Γ e ρ with
    | some (.bl b) => some b
    | _ => none) := rfl
@[simp] theorem pIt_e : pIt Γ (.e a) ρ = (match pE Γ a ρ with
    | some x => itemsOf x
    | none => none) := rfl
@[simp] theorem pIt_r1 : pIt Γ (.rng1 a) ρ = (match pE Γ a ρ with
    | some (.int j) => if -(2 ^ 62) ≤ j ∧ j < 2 ^ 62 then some (rngD 0 j) else none
    | _ => none) := rfl
/-- a comprehension's turn -/
def lcT (Γ : PC) (elt : E) (tg : Tg) (c : Eo) (own : List Nat) (ρ : Ev) (x : D) : Option (Option D) := match tgP tg x (wipeD ρ own) with
  | some ρ => match pC Γ c ρ with
    | some true => (pE Γ elt ρ).map some
    | some false => some none
    | none => none
  | none => none
theorem pE_lc {elt : E} {tg : Tg} {it : It} {c : Eo} {own : List Nat} {items : List D} (g : D → D) (hi : pIt Γ it ρ = some items) (hl : items.length ≤ big) (ht : ∀ x ∈ items, lcT Γ elt tg c own ρ x = some (some (g x))) :
    pE Γ (.lc true elt tg it c own) ρ = some (.lst (items.map g)) := by
  show (if true = true then (match pIt Γ it ρ with
    | some items => if items.length ≤ big then (pLc (lcT Γ elt tg c own ρ) items).map D.lst else none
    | none => none) else none) = _
  rw [if_pos rfl, hi]
  simp only
  rw [if_pos hl, pLc_map g items ht]
  rfl
theorem pE_lcf {elt : E} {tg : Tg} {it : It} {c : Eo} {own : List Nat} {items : List D} (g : D → D) (p : D → Bool) (hi : pIt Γ it ρ = some items) (hl : items.length ≤ big) (ht : ∀ x ∈ items, lcT Γ elt tg c own ρ x = some (if p x = true then some (g x) else none)) :
    pE Γ (.lc true elt tg it c own) ρ = some (.lst ((items.filter p).map g)) := by
  show (if true = true then (match pIt Γ it ρ with
    | some items => if items.length ≤ big then (pLc (lcT Γ elt tg c own ρ) items).map D.lst else none
    | none => none) else none) = _
  rw [if_pos rfl, hi]
  simp only
  rw [if_pos hl, pLc_filter g p items ht]
  rfl
variable {s : S} {sl al bl : Ss}
@[simp] theorem pSs_nil : pSs Γ .nil ρ = some (.nx ρ) := rfl
@[simp] theorem pSs_cons : pSs Γ (.cons s sl) ρ = (match pS Γ s ρ with
    | some (.nx ρ) => pSs Γ sl ρ
    | r => r) := rfl
@[simp] theorem pS_asg (tg : Tg) : pS Γ (.asg tg e) ρ = (match pE Γ e ρ with
    | some x => (tgP tg x ρ).map .nx
    | none => none) := rfl
@[simp] theorem pS_par (is : List Nat) : pS Γ (.par is es) ρ = (match pEs Γ es ρ with
    | some xs => (stores is xs ρ).map .nx
    | none => none) := rfl
@[simp] theorem pS_aug (i : Nat) (o : Op2) : pS Γ (.aug i o e) ρ = (match lk ρ i with
    | some x => match pE Γ e ρ with
      | some y => (augP o x y).map fun z => .nx (sv ρ i (some z))
      | none => none
    | none => none) := rfl
@[simp] theorem pS_ret : pS Γ (.ret e) ρ = (pE Γ e ρ).map .rt := rfl
@[simp] theorem pS_ret0 : pS Γ .ret0 ρ = some (.rt .non) := rfl
@[simp] theorem pS_ife : pS Γ (.ife c al bl) ρ = (match pE Γ c ρ with
    | some (.bl true) => pSs Γ al ρ
    | some (.bl false) => pSs Γ bl ρ
    | _ => none) := rfl
@[simp] theorem pS_for (tg : Tg) (it : It) : pS Γ (.for_ tg it al) ρ = (match pIt Γ it ρ with
    | some items => pFor tg (fun ρ => pSs Γ al ρ) items ρ
    | none => none) := rfl
@[simp] theorem ss_nil : ss [] = .nil := rfl
@[simp] theorem ss_cons (l : List S) : ss (s :: l) = .cons s (ss l) := rfl
@[simp] theorem env0_0 (xs : List D) : env0 0 xs = [] := rfl
@[simp] theorem env0_n (n : Nat) : env0 (n + 1) [] = none :: env0 n [] := rfl
@[simp] theorem env0_s (n : Nat) (x : D) (xs : List D) : env0 (n + 1) (x :: xs) = some x :: env0 n xs := rfl
@[simp] theorem lk_0 (x : Option D) (r : Ev) : lk (x :: r) 0 = x := rfl
@[simp] theorem lk_s (x : Option D) (r : Ev) (n : Nat) : lk (x :: r) (n + 1) = lk r n := rfl
@[simp] theorem sv_0 (x d : Option D) (r : Ev) : sv (x :: r) 0 d = d :: r := rfl
@[simp] theorem sv_s (x d : Option D) (r : Ev) (n : Nat) : sv (x :: r) (n + 1) d = x :: sv r n d := rfl
@[simp] theorem wipe_nil : wipeD ρ [] = ρ := rfl
@[simp] theorem wipe_cons (i : Nat) (is : List Nat) : wipeD ρ (i :: is) = sv (wipeD ρ is) i none := rfl
@[simp] theorem outP_rt (d : D) : outP (some (.rt d)) = some d := rfl
@[simp] theorem outP_nx (ρ : Ev) : outP (some (.nx ρ)) = some .non := rfl
@[simp] theorem tgP_name (i : Nat) (x : D) : tgP (.name i) x ρ = some (sv ρ i (some x)) := rfl
@[simp] theorem tgP_tup (is : List Nat) (xs : List D) : tgP (.tup is) (.tup xs) ρ = stores is xs ρ := rfl
@[simp] theorem stores_nil : stores [] [] ρ = some ρ := rfl
@[simp] theorem stores_cons (i : Nat) (is : List Nat) (x : D) (xs : List D) : stores (i :: is) (x :: xs) ρ = stores is xs (sv ρ i (some x)) := rfl
@[simp] theorem biP1 (f : Bi) (x : D) : biP f [x] = bi1P f x := rfl
@[simp] theorem biP2 (f : Bi) (x y : D) : biP f [x, y] = bi2P f x y := rfl
@[simp] theorem len_tup (xs : List D) : bi1P .len (.tup xs) = some (.int xs.length) := rfl
@[simp] theorem len_lst (xs : List D) : bi1P .len (.lst xs) = some (.int xs.length) := rfl
@[simp] theorem len_ro (xs : List D) : bi1P .len (.ro xs) = some (.int xs.length) := rfl
@[simp] theorem items_tup (xs : List D) : itemsOf (.tup xs) = some xs := rfl
@[simp] theorem items_lst (xs : List D) : itemsOf (.lst xs) = some xs := rfl
@[simp] theorem items_ro (xs : List D) : itemsOf (.ro xs) = some xs := rfl
@[simp] theorem items_str (x : Str) : itemsOf (.str x) = some (x.cps.toList.map fun c => .str ⟨#[c]⟩) := rfl
@[simp] theorem int_bl (b : Bool) : bi1P .int (.bl b) = some (.int (if b then 1 else 0)) := rfl
@[simp] theorem bin_add (i j : Int) : binP .add (.int i) (.int j) = some (.int (i + j)) := rfl
@[simp] theorem bin_sub (i j : Int) : binP .sub (.int i) (.int j) = some (.int (i - j)) := rfl
end
theorem len_str {x : Str} (h : x.length ≤ big) : bi1P .len (.str x) = some (.int x.length) := if_pos h
theorem big_of {n : Nat} (h : n ≤ 1000000) : n ≤ big := h
/-! ### simple answers -/
@[simp] theorem cmp_eq_int (i j : Int) : cmpP .eq (.int i) (.int j) = some (i == j) := by simp [cmpP, eqP, isNil, pureP, D.pure, D.depth, D.eqv]
@[simp] theorem cmp_ne_int (i j : Int) : cmpP .ne (.int i) (.int j) = some (!(i == j)) := by simp [cmpP, eqP, isNil, pureP, D.pure, D.depth, D.eqv]
@[simp] theorem cmp_eq_str (i j : Str) : cmpP .eq (.str i) (.str j) = some (i == j) := by simp [cmpP, eqP, isNil, pureP, D.pure, D.depth, D.eqv]
@[simp] theorem cmp_ne_str (i j : Str) : cmpP .ne (.str i) (.str j) = some (!(i == j)) := by simp [cmpP, eqP, isNil, pureP, D.pure, D.depth, D.eqv]
@[simp] theorem cmp_eq_tnil (xs : List D) : cmpP .eq (.tup xs) (.tup []) = some xs.isEmpty := by simp [cmpP, eqP, isNil]
@[simp] theorem cmp_eq_lnil (xs : List D) : cmpP .eq (.lst xs) (.lst []) = some xs.isEmpty := by simp [cmpP, eqP, isNil]
@[simp] theorem cmp_lt_int (i j : Int) : cmpP .lt (.int i) (.int j) = some (decide (i < j)) := rfl
@[simp] theorem cmp_le_int (i j : Int) : cmpP .le (.int i) (.int j) = some (decide (i ≤ j)) := rfl
@[simp] theorem cmp_gt_int (i j : Int) : cmpP .gt (.int i) (.int j) = some (decide (j < i)) := rfl
@[simp] theorem cmp_ge_int (i j : Int) : cmpP .ge (.int i) (.int j) = some (decide (j ≤ i)) := rfl
@[simp] theorem cmp_in_str (i j : Str) : cmpP .inn (.str i) (.str j) = some (strIn i j) := rfl
@[simp] theorem cmp_nin_str (i j : Str) : cmpP .nin (.str i) (.str j) = some (!strIn i j) := rfl
@[simp] theorem cmp_in_tab (i : Str) (ks : List Str) (vs : List D) : cmpP .inn (.str i) (.tab ks vs) = some (ks.contains i) := rfl
@[simp] theorem cmp_nin_tab (i : Str) (ks : List Str) (vs : List D) : cmpP .nin (.str i) (.tab ks vs) = some (!ks.contains i) := rfl
@[simp] theorem ix_tup0 (x : D) (xs : List D) : ixP (.tup (x :: xs)) (.int 0) = some x := by simp [ixP, at_, place]
@[simp] theorem ix_lst0 (x : D) (xs : List D) : ixP (.lst (x :: xs)) (.int 0) = some x := by simp [ixP, at_, place]
theorem allB_map {α : Type} (f : α → Bool) : ∀ xs : List α, allB (xs.map fun c => .bl (f c)) = some (xs.map f)
  | [] => rfl
  | x :: xs => by
    show (allB (xs.map fun c => D.bl (f c))).map (f x :: ·) = _
    rw [allB_map f xs]
    rfl
theorem intsD_map {α : Type} (f : α → Int) : ∀ xs : List α, intsD (xs.map fun c => .int (f c)) = some (xs.map f)
  | [] => rfl
  | x :: xs => by
    show (intsD (xs.map fun c => D.int (f c))).map (f x :: ·) = _
    rw [intsD_map f xs]
    rfl
/-! ### statement by statement -/
theorem st_ret {Γ : PC} {s : S} {sl : Ss} {ρ : Ev} {d : D} (h : pS Γ s ρ = some (.rt d)) : pSs Γ (.cons s sl) ρ = some (.rt d) := by
  rw [pSs_cons, h]
theorem st_nx {Γ : PC} {s : S} {sl : Ss} {ρ ρ' : Ev} {r : Option Re} (h : pS Γ s ρ = some (.nx ρ')) (h2 : pSs Γ sl ρ' = r) : pSs Γ (.cons s sl) ρ = r := by
  rw [pSs_cons, h]
  exact h2
theorem st_if {Γ : PC} {c : E} {al bl sl : Ss} {ρ : Ev} {r : Option Re} (b : Bool) (h : pE Γ c ρ = some (.bl b)) (h2 : (match pSs Γ (if b = true then al else bl) ρ with
    | some (.nx ρ) => pSs Γ sl ρ
    | r => r) = r) : pSs Γ (.cons (.ife c al bl) sl) ρ = r := by
  rw [pSs_cons, pS_ife, h]
  cases b <;> exact h2
/-- if c: return .. -/
theorem st_ifr {Γ : PC} {c e : E} {sl : Ss} {ρ : Ev} {d : D} (h : pE Γ c ρ = some (.bl true)) (h2 : pE Γ e ρ = some d) : pSs Γ (.cons (.ife c (.cons (.ret e) .nil) .nil) sl) ρ = some (.rt d) :=
  st_ret (by rw [pS_ife, h]; exact st_ret (by rw [pS_ret, h2]; rfl))
theorem st_ifn {Γ : PC} {c : E} {al sl : Ss} {ρ : Ev} {r : Option Re} (h : pE Γ c ρ = some (.bl false)) (h2 : pSs Γ sl ρ = r) : pSs Γ (.cons (.ife c al .nil) sl) ρ = r :=
  st_nx (by rw [pS_ife, h]; rfl) h2
theorem st_asg {Γ : PC} {i : Nat} {e : E} {sl : Ss} {ρ : Ev} {d : D} {r : Option Re} (h : pE Γ e ρ = some d) (h2 : pSs Γ sl (sv ρ i (some d)) = r) : pSs Γ (.cons (.asg (.name i) e) sl) ρ = r :=
  st_nx (by rw [pS_asg, h]; rfl) h2
theorem st_retE {Γ : PC} {e : E} {sl : Ss} {ρ : Ev} {d : D} (h : pE Γ e ρ = some d) : pSs Γ (.cons (.ret e) sl) ρ = some (.rt d) := st_ret (by rw [pS_ret, h]; rfl)
theorem out_of {r : Option Re} {d : D} (h : r = some (.rt d)) : outP r = some d := by rw [h]; rfl
theorem beq_dec (a b : Str) : (a == b) = decide (b = a) := by
  by_cases h : b = a
  · subst h; simp
  · simp [h, Ne.symm h]
theorem ix_at {xs : List D} {k : Nat} {d : D} (h : xs[k]? = some d) : ixP (.tup xs) (.int (k : Int)) = some d ∧ ixP (.lst xs) (.int (k : Int)) = some d ∧ ixP (.ro xs) (.int (k : Int)) = some d := by
  have hk : k < xs.length := (List.getElem?_eq_some_iff.mp h).1
  have e : at_ xs (k : Int) = some d := by
    unfold at_ place
    rw [if_pos (by omega), if_pos (by omega)]
    simpa using h
  exact ⟨e, e, e⟩
theorem mul_int {i j : Int} (h : i.natAbs.log2 + j.natAbs.log2 < 1000000) : binP .mul (.int i) (.int j) = some (.int (i * j)) := if_pos h
end Mi
/-! ## M17: tools for contracts of code that draws from a pot -/
namespace Mi
open PySem
section
variable {Γ : Ctx} {ρ : Ev} {e a b c d : E} {es ks : Es} {st : Store} {X : XK} {Q : QD}
@[simp] theorem wE_v (i : Nat) : wE Γ (.v i) ρ st X Q = (match lk ρ i with
    | some d => Q d st
    | none => False) := rfl
@[simp] theorem wE_int (i : Int) : wE Γ (.int i) ρ st X Q = Q (.int i) st := rfl
@[simp] theorem wE_str (i : Str) : wE Γ (.str i) ρ st X Q = Q (.str i) st := rfl
@[simp] theorem wE_bl (i : Bool) : wE Γ (.bl i) ρ st X Q = Q (.bl i) st := rfl
@[simp] theorem wE_non : wE Γ .non ρ st X Q = Q .non st := rfl
@[simp] theorem wE_glb (x : Str) : wE Γ (.glb x) ρ st X Q = (match Γ.glb x with
    | some d => Q d st
    | none => False) := rfl
@[simp] theorem wE_bin (o : Op2) : wE Γ (.bin o a b) ρ st X Q = wE Γ a ρ st X fun x st => wE Γ b ρ st X fun y st => binW o x y st Q := rfl
@[simp] theorem wE_neg : wE Γ (.neg a) ρ st X Q = wE Γ a ρ st X fun x st => match x with
    | .int i => Q (.int (-i)) st
    | _ => False := rfl
@[simp] theorem wE_cmp (o : Cm) : wE Γ (.cmp o a b) ρ st X Q = wE Γ a ρ st X fun x st => wE Γ b ρ st X fun y st => cmpW o x y st fun k => Q (.bl k) st := rfl
@[simp] theorem wE_and : wE Γ (.and_ es) ρ st X Q = wAnd Γ es ρ st X Q := rfl
@[simp] theorem wE_or : wE Γ (.or_ es) ρ st X Q = wOr Γ es ρ st X Q := rfl
@[simp] theorem wE_not : wE Γ (.not_ a) ρ st X Q = wE Γ a ρ st X fun x st => match x with
    | .bl b => Q (.bl !b) st
    | _ => False := rfl
@[simp] theorem wE_ife : wE Γ (.ife c a b) ρ st X Q = wE Γ c ρ st X fun x st => match x with
    | .bl k => if k = true then wE Γ a ρ st X Q else wE Γ b ρ st X Q
    | _ => False := rfl
@[simp] theorem wE_ix : wE Γ (.ix a b) ρ st X Q = wE Γ a ρ st X fun x st => wE Γ b ρ st X fun k st => ixW x k st Q := rfl
@[simp] theorem wE_sl (lo hi : Eo) : wE Γ (.sl a lo hi) ρ st X Q = wE Γ a ρ st X fun x st => wEo Γ lo ρ st X fun l st => wEo Γ hi ρ st X fun h st => slW x l h st Q := rfl
@[simp] theorem wE_tup : wE Γ (.tup es) ρ st X Q = wEs Γ es ρ st X fun xs st => Q (.tup xs) st := rfl
@[simp] theorem wE_lst : wE Γ (.lst true es) ρ st X Q = wEs Γ es ρ st X fun xs st => Q (.lst xs) st := rfl
@[simp] theorem wE_lstN : wE Γ (.lst false es) ρ st X Q = wEs Γ es ρ st X fun xs st => newL xs st Q := rfl
@[simp] theorem wE_dic : wE Γ (.dic true .nil .nil) ρ st X Q = Q (.dct [] []) st := rfl
@[simp] theorem wE_call (f : Str) : wE Γ (.call f es) ρ st X Q = wEs Γ es ρ st X fun xs st => Γ.call f xs st X Q := rfl
@[simp] theorem wE_bi (f : Bi) : wE Γ (.bi f es) ρ st X Q = wEs Γ es ρ st X fun xs st => biW f xs st Q := rfl
@[simp] theorem wE_isi (t : Ty) : wE Γ (.isi a t) ρ st X Q = wE Γ a ρ st X fun x st => match isT t (der st x) with
    | some k => Q (.bl k) st
    | none => False := rfl
@[simp] theorem wEs_nil {Q : List D → Store → Prop} : wEs Γ .nil ρ st X Q = Q [] st := rfl
@[simp] theorem wEs_cons {Q : List D → Store → Prop} : wEs Γ (.cons e es) ρ st X Q = wE Γ e ρ st X fun x st => wEs Γ es ρ st X fun xs st => Q (x :: xs) st := rfl
@[simp] theorem wAnd_one : wAnd Γ (.cons e .nil) ρ st X Q = wE Γ e ρ st X Q := rfl
@[simp] theorem wAnd_cons : wAnd Γ (.cons e (.cons a es)) ρ st X Q = wE Γ e ρ st X fun x st => match x with
    | .bl b => if b = true then wAnd Γ (.cons a es) ρ st X Q else Q (.bl false) st
    | _ => False := rfl
@[simp] theorem wOr_one : wOr Γ (.cons e .nil) ρ st X Q = wE Γ e ρ st X Q := rfl
@[simp] theorem wOr_cons : wOr Γ (.cons e (.cons a es)) ρ st X Q = wE Γ e ρ st X fun x st => match x with
    | .bl b => if b = true then Q (.bl true) st else wOr Γ (.cons a es) ρ st X Q
    | _ => False := rfl
@[simp] theorem wEo_none {Q : Option Int → Store → Prop} : wEo Γ .none ρ st X Q = Q none st := rfl
@[simp] theorem wEo_some {Q : Option Int → Store → Prop} : wEo Γ (.some e) ρ st X Q = wE Γ e ρ st X fun x st => match x with
    | .int i => Q (some i) st
    | _ => False := rfl
@[simp] theorem wE_lc {elt : E} {tg : Tg} {it : It} {c : Eo} {own : List Nat} : wE Γ (.lc true elt tg it c own) ρ st X Q = wIt Γ it ρ st X fun items g st =>
      lcW g (fun x st K => tgW tg x (wipeD ρ own) st fun ρ st => wC Γ c ρ st X fun b st => if b = true then wE Γ elt ρ st X (fun y st => K (some y) st) else K none st) items [] st fun acc st => Q (.lst acc) st := rfl
@[simp] theorem wIt_r1 {Q : List D → (Store → Prop) → Store → Prop} : wIt Γ (.rng1 a) ρ st X Q = wE Γ a ρ st X fun x st => match x with
    | .int j => smallI j ∧ Q (rngD 0 j) (fun _ => True) st
    | _ => False := rfl
@[simp] theorem wIt_e {Q : List D → (Store → Prop) → Store → Prop} : wIt Γ (.e a) ρ st X Q = wE Γ a ρ st X fun x st => ∃ xs, itemsOf (der st x) = some xs ∧ Q xs (fun st' => ∀ a, x = .loc a → st' a = st a) st := rfl
@[simp] theorem wC_none {Q : Bool → Store → Prop} : wC Γ .none ρ st X Q = Q true st := rfl
variable {s : S} {sl al bl : Ss} {R : En}
@[simp] theorem wSs_nil : wSs Γ .nil ρ st X R = R.nx ρ st := rfl
@[simp] theorem wSs_cons : wSs Γ (.cons s sl) ρ st X R = wS Γ s ρ st X ⟨fun ρ st => wSs Γ sl ρ st X R, R.rt, R.bk⟩ := rfl
@[simp] theorem wS_asg (tg : Tg) : wS Γ (.asg tg e) ρ st X R = wE Γ e ρ st X fun x st => tgW tg x ρ st R.nx := rfl
@[simp] theorem wS_par (is : List Nat) : wS Γ (.par is es) ρ st X R = wEs Γ es ρ st X fun xs st => ∃ ρ', stores is xs ρ = some ρ' ∧ R.nx ρ' st := rfl
@[simp] theorem wS_ret : wS Γ (.ret e) ρ st X R = wE Γ e ρ st X R.rt := rfl
@[simp] theorem wS_ex : wS Γ (.ex e) ρ st X R = wE Γ e ρ st X fun _ st => R.nx ρ st := rfl
@[simp] theorem wS_setix (o i : E) : wS Γ (.setix o i e) ρ st X R = wE Γ e ρ st X fun x st => wE Γ o ρ st X fun o st => wE Γ i ρ st X fun i st => setW o i x st fun st => R.nx ρ st := rfl
@[simp] theorem wS_ife : wS Γ (.ife c al bl) ρ st X R = wE Γ c ρ st X fun x st => match x with
    | .bl k => if k = true then wSs Γ al ρ st X R else wSs Γ bl ρ st X R
    | _ => False := rfl
@[simp] theorem wS_for (tg : Tg) (it : It) : wS Γ (.for_ tg it al) ρ st X R = wIt Γ it ρ st X fun items g st => forW g tg (fun ρ st R => wSs Γ al ρ st X R) items ρ st R := rfl
@[simp] theorem wS_pass : wS Γ .pass ρ st X R = R.nx ρ st := rfl
@[simp] theorem tgW_name (i : Nat) (x : D) {Q : Ev → Store → Prop} : tgW (.name i) x ρ st Q = Q (sv ρ i (some x)) st := rfl
@[simp] theorem binW_add (i j : Int) : binW .add (.int i) (.int j) st Q = Q (.int (i + j)) st := rfl
@[simp] theorem binW_sub (i j : Int) : binW .sub (.int i) (.int j) st Q = Q (.int (i - j)) st := rfl
@[simp] theorem binW_mod (i j : Int) : binW .mod (.int i) (.int j) st Q = (0 < j ∧ Q (.int (i % j)) st) := rfl
@[simp] theorem binW_fdiv (i j : Int) : binW .fdiv (.int i) (.int j) st Q = (divOk j ∧ Q (.int (i / j)) st) := rfl
@[simp] theorem binW_mul (i j : Int) : binW .mul (.int i) (.int j) st Q = (mulOk i j ∧ Q (.int (i * j)) st) := rfl
@[simp] theorem binW_pow (i j : Int) : binW .pow (.int i) (.int j) st Q = (powOk i j ∧ Q (.int (i ^ j.toNat)) st) := rfl
@[simp] theorem binW_addT (a b : List D) : binW .add (.tup a) (.tup b) st Q = (a.length + b.length ≤ big ∧ Q (.tup (a ++ b)) st) := rfl
@[simp] theorem binW_addL (a b : List D) : binW .add (.lst a) (.lst b) st Q = (a.length + b.length ≤ big ∧ Q (.lst (a ++ b)) st) := rfl
@[simp] theorem slW_tup (xs : List D) (lo hi : Option Int) : slW (.tup xs) lo hi st Q = Q (.tup (cut xs lo hi)) st := rfl
@[simp] theorem slW_lst (xs : List D) (lo hi : Option Int) : slW (.lst xs) lo hi st Q = Q (.lst (cut xs lo hi)) st := rfl
@[simp] theorem cmpW_gt (i j : Int) {P : Bool → Prop} : cmpW .gt (.int i) (.int j) st P = P (decide (j < i)) := rfl
@[simp] theorem cmpW_lt (i j : Int) {P : Bool → Prop} : cmpW .lt (.int i) (.int j) st P = P (decide (i < j)) := rfl
@[simp] theorem cmpW_ge (i j : Int) {P : Bool → Prop} : cmpW .ge (.int i) (.int j) st P = P (decide (j ≤ i)) := rfl
@[simp] theorem cmpW_le (i j : Int) {P : Bool → Prop} : cmpW .le (.int i) (.int j) st P = P (decide (i ≤ j)) := rfl
@[simp] theorem cmpW_eqTN (xs : List D) {P : Bool → Prop} : cmpW .eq (.tup xs) (.tup []) st P = P xs.isEmpty := rfl
theorem cmpW_eq (i j : Int) {P : Bool → Prop} (h : P (i == j)) : cmpW .eq (.int i) (.int j) st P := cmpP_ok (cmp_eq_int i j) h
@[simp] theorem biW_len_tup (xs : List D) : biW .len [.tup xs] st Q = Q (.int xs.length) st := rfl
@[simp] theorem biW_len_lst (xs : List D) : biW .len [.lst xs] st Q = Q (.int xs.length) st := rfl
@[simp] theorem biW_len_ro (xs : List D) : biW .len [.ro xs] st Q = Q (.int xs.length) st := rfl
@[simp] theorem biW_abs (i : Int) : biW .abs [.int i] st Q = Q (.int (if i < 0 then -i else i)) st := rfl
@[simp] theorem biW_int (b : Bool) : biW .int [.bl b] st Q = Q (.int (if b then 1 else 0)) st := rfl
@[simp] theorem biW_list (xs : List D) : biW .list [.tup xs] st Q = Q (.lst xs) st := rfl
@[simp] theorem biW_tuple (xs : List D) : biW .tuple [.lst xs] st Q = Q (.tup xs) st := rfl
@[simp] theorem biW_max (i j : Int) : biW .max2 [.int i, .int j] st Q = Q (if decide (j > i) = true then .int j else .int i) st := rfl
@[simp] theorem biW_min (i j : Int) : biW .min2 [.int i, .int j] st Q = Q (if decide (j < i) = true then .int j else .int i) st := rfl
end
section
variable {st : Store} {Q : QD} {p : Nat} {xs : List D}
theorem place_in {k : Nat} {n : Nat} (h : k < n) : place n (k : Int) = some k := by
  unfold place
  rw [if_pos (by omega), if_pos (by omega)]
  rfl
theorem at_nat {k : Nat} {d : D} (h : xs[k]? = some d) : at_ xs (k : Int) = some d := by
  unfold at_
  rw [place_in (List.getElem?_eq_some_iff.mp h).1]
  exact h
theorem ixW_cell (k : Nat) {d : D} (h : st p = some (.lst xs)) (e : xs[k]? = some d) (q : Q d st) : ixW (.loc p) (.int (k : Int)) st Q := by
  unfold ixW
  have ed : der st (.loc p) = .lst xs := by simp only [der, h]
  rw [ed]
  exact ⟨d, at_nat e, q⟩
theorem setW_cell (k : Nat) {x : D} {Q : Store → Prop} (h : st p = some (.lst xs)) (hk : k < xs.length) (q : Q (st.up p (.lst (xs.set k x)))) : setW (.loc p) (.int (k : Int)) x st Q := by
  unfold setW
  simp only [h]
  exact ⟨k, place_in hk, q⟩
/-- an item of a written list, by a place that is drawn -/
theorem ixW_lit {i : Int} (h0 : 0 ≤ i) (h1 : i < xs.length) (q : ∀ d ∈ xs, Q d st) : ixW (.lst xs) (.int i) st Q := by
  have hk : i.toNat < xs.length := by omega
  have e : ((i.toNat : Nat) : Int) = i := by omega
  have e2 : at_ xs i = some xs[i.toNat] := by
    have z := at_nat (List.getElem?_eq_getElem hk)
    rw [e] at z
    exact z
  exact ⟨_, e2, q _ (List.getElem_mem hk)⟩
theorem ixW_litT {i : Int} (h0 : 0 ≤ i) (h1 : i < xs.length) (q : ∀ d ∈ xs, Q d st) : ixW (.tup xs) (.int i) st Q := by
  have hk : i.toNat < xs.length := by omega
  have e : ((i.toNat : Nat) : Int) = i := by omega
  have e2 : at_ xs i = some xs[i.toNat] := by
    have z := at_nat (List.getElem?_eq_getElem hk)
    rw [e] at z
    exact z
  exact ⟨_, e2, q _ (List.getElem_mem hk)⟩
theorem ixW_ro {i : Int} (h0 : 0 ≤ i) (h1 : i < xs.length) (q : ∀ d ∈ xs, Q d st) : ixW (.ro xs) (.int i) st Q := by
  have hk : i.toNat < xs.length := by omega
  have e : ((i.toNat : Nat) : Int) = i := by omega
  have e2 : at_ xs i = some xs[i.toNat] := by
    have z := at_nat (List.getElem?_eq_getElem hk)
    rw [e] at z
    exact z
  exact ⟨_, e2, q _ (List.getElem_mem hk)⟩
end
theorem rng_len (j : Int) : (rngD 0 j).length = j.toNat := by simp [rngD]
theorem rng_mem {j : Int} {d : D} (h : d ∈ rngD 0 j) : ∃ k : Nat, (k : Int) < j ∧ d = .int k := by
  unfold rngD at h
  obtain ⟨k, hk, rfl⟩ := List.mem_map.mp h
  have := List.mem_range.mp hk
  exact ⟨k, by omega, by rw [Int.zero_add]⟩
theorem cut_to {xs : List D} {i : Int} (h0 : 0 ≤ i) (h1 : i ≤ xs.length) : cut xs none (some i) = xs.take i.toNat := by
  unfold cut clip
  simp only [Nat.sub_zero, List.drop_zero]
  rw [if_neg (by omega)]
  congr 1
  omega
theorem cut_from {xs : List D} {i : Int} (h0 : 0 ≤ i) : cut xs (some i) none = xs.drop i.toNat := by
  unfold cut clip
  simp only
  rw [if_neg (by omega)]
  have e : xs.drop (min i.toNat xs.length) = xs.drop i.toNat := by
    by_cases h : i.toNat ≤ xs.length
    · rw [Nat.min_eq_left h]
    · rw [Nat.min_eq_right (by omega), List.drop_eq_nil_of_le (Nat.le_refl _), List.drop_eq_nil_of_le (by omega)]
  rw [e, List.take_of_length_le]
  rw [List.length_drop]
  omega
theorem cut_mid {xs : List D} {i j : Int} (h0 : 0 ≤ i) (h1 : i ≤ j) (h2 : j ≤ xs.length) : cut xs (some i) (some j) = (xs.drop i.toNat).take (j.toNat - i.toNat) := by
  unfold cut clip
  simp only
  rw [if_neg (by omega), if_neg (by omega), Nat.min_eq_left (by omega), Nat.min_eq_left (by omega)]
/-! ### sizes of numbers -/
theorem log_lt {i : Int} {k : Nat} (h0 : 0 ≤ i) (h : i < 2 ^ k) : i.natAbs.log2 ≤ k := by
  by_cases z : i.natAbs = 0
  · rw [z]
    exact Nat.zero_le _
  · refine Nat.le_of_lt ((Nat.log2_lt z).mpr ?_)
    have e : ((2 ^ k : Nat) : Int) = (2 : Int) ^ k := by push_cast; rfl
    omega
theorem bits_le {i : Int} {k : Nat} (h0 : 0 ≤ i) (h : i < 2 ^ k) : Builtin.Int.intBits i ≤ k + 1 := by
  unfold Builtin.Int.intBits
  split
  · omega
  · have := log_lt h0 h
    omega
theorem powOk_of {i n : Int} (k : Nat) (h0 : 0 ≤ i) (h : i < 2 ^ k) (hn : 0 ≤ n) (hb : ((k : Int) + 1) * n ≤ 2 ^ 27) : powOk i n := by
  refine ⟨hn, Int.le_trans (Int.mul_le_mul_of_nonneg_right ?_ hn) hb⟩
  have := bits_le h0 h
  omega
theorem mulOk_of {i j : Int} (k l : Nat) (h0 : 0 ≤ i) (h : i < 2 ^ k) (h0' : 0 ≤ j) (h' : j < 2 ^ l) (hb : k + l < 1000000) : mulOk i j := by
  unfold mulOk
  have := log_lt h0 h
  have := log_lt h0' h'
  omega
theorem divOk_of {j : Int} (k : Nat) (h0 : 0 < j) (h : j < 2 ^ k) (hb : k < 9000) : divOk j := by
  refine ⟨h0, ?_⟩
  have := log_lt (Int.le_of_lt h0) h
  omega
/-! ### the pot: a big number, a mixed one, a count; T draws may follow -/
def Pot (p : Nat) (T : Nat) (st : Store) : Prop := ∃ c m t : Int, st p = some (.lst [.int c, .int m, .int t]) ∧ 0 ≤ c ∧ c < 2 ^ 4000 ∧ 0 ≤ m ∧ m < 2 ^ 70 ∧ 0 ≤ t ∧ t + T ≤ 2 ^ 70
theorem Pot.le {p T T' : Nat} {st : Store} (h : Pot p T st) (l : T' ≤ T) : Pot p T' st := by
  obtain ⟨c, m, t, h1, h2, h3, h4, h5, h6, h7⟩ := h
  exact ⟨c, m, t, h1, h2, h3, h4, h5, h6, by omega⟩
theorem call_pure {G : Pg} {n : Nat} {f : Str} {xs : List D} {d : D} {st : Store} {X : XK} {Q : QD} (h : runN G n f xs = some d) (q : Q d st) : callN G n f xs st X Q := run_ok n f xs d h st X Q q
end Mi
/-! ### mighthave_k12_what_is_a_test: the text, the head -/
namespace K
open PySem PySem.Spec PyProof.Rows L2 Mi
/- is_between(thing, least, most): thing 0, least 1, most 2 -/
def b_is_between : Df := ⟨3, 3, (ss [.ret (.and_ (.cons (.isi (.v 0) .int) (.cons (.not_ (.isi (.v 0) .bool)) (.cons (.chain .le .le (.v 1) (.v 0) (.v 2)) .nil))))])⟩
/- is_name(thing): thing 0, sign 1 -/
def b_is_name : Df := ⟨1, 2, (ss [.ife (.or_ (.cons (.not_ (.isi (.v 0) .str)) (.cons (.not_ (.chain .le .le (.int 1) (.bi .len (.cons (.v 0) .nil)) (.glb "MOST_LETTERS"))) .nil)))
    (ss [.ret (.bl false)])
    (ss []),
  .ret (.bi .all (.cons (.lc true (.cmp .inn (.v 1) (.glb "LETTERS")) (.name 1) (.e (.v 0)) .none [1]) .nil))])⟩
/- is_just(number, k): number 0, k 1 -/
def b_is_just : Df := ⟨2, 2, (ss [.ret (.cmp .eq (.v 0) (.v 1))])⟩
/- is_no_less(number, k): number 0, k 1 -/
def b_is_no_less : Df := ⟨2, 2, (ss [.ret (.cmp .ge (.v 0) (.v 1))])⟩
/- is_no_more(number, k): number 0, k 1 -/
def b_is_no_more : Df := ⟨2, 2, (ss [.ret (.cmp .le (.v 0) (.v 1))])⟩
/- leaves_within(thing, levels): thing 0, levels 1, found 2, word 3, rest 4, part 5 -/
def b_leaves_within : Df := ⟨2, 6, (ss [.ife (.or_ (.cons (.not_ (.isi (.v 0) .tuple)) (.cons (.cmp .eq (.v 0) (.tup .nil)) (.cons (.not_ (.isi (.ix (.v 0) (.int 0)) .str)) (.cons (.cmp .eq (.v 1) (.int 0)) .nil)))))
    (ss [.ret .non])
    (ss []),
  .asg (.star [3] 4) (.v 0),
  .ife (.cmp .inn (.v 3) (.glb "WORTHS"))
    (ss [.ret (.ife (.and_ (.cons (.cmp .eq (.bi .len (.cons (.v 4) .nil)) (.int 2)) (.cons (.call "is_name" (.cons (.ix (.v 4) (.int 0)) .nil)) (.cons (.call "is_between" (.cons (.ix (.v 4) (.int 1)) (.cons (.int 0) (.cons (.glb "MOST_WORTH") .nil)))) .nil)))) (.int 1) .non)])
    (ss []),
  .ife (.cmp .ne (.bi .len (.cons (.v 4) .nil)) (.int 1))
    (ss [.ret .non])
    (ss []),
  .ife (.cmp .eq (.v 3) (.glb "DONE"))
    (ss [.ret (.ife (.call "is_between" (.cons (.ix (.v 4) (.int 0)) (.cons (.int 0) (.cons (.glb "MOST_DONE") .nil)))) (.int 1) .non)])
    (ss []),
  .ife (.cmp .eq (.v 3) (.glb "NOT"))
    (ss [.ret (.call "leaves_within" (.cons (.ix (.v 4) (.int 0)) (.cons (.bin .sub (.v 1) (.int 1)) .nil)))])
    (ss []),
  .ife (.or_ (.cons (.cmp .nin (.v 3) (.glb "JOINERS")) (.cons (.not_ (.isi (.ix (.v 4) (.int 0)) .tuple)) (.cons (.not_ (.chain .le .le (.int 2) (.bi .len (.cons (.ix (.v 4) (.int 0)) .nil)) (.glb "MOST_PARTS"))) .nil))))
    (ss [.ret .non])
    (ss []),
  .asg (.name 2) (.lc true (.call "leaves_within" (.cons (.v 5) (.cons (.bin .sub (.v 1) (.int 1)) .nil))) (.name 5) (.e (.ix (.v 4) (.int 0))) .none [5]),
  .ret (.ife (.cmp .inn .non (.v 2)) .non (.bi .sum (.cons (.v 2) .nil)))])⟩
/- is_test(thing): thing 0, leaves 1 -/
def b_is_test : Df := ⟨1, 2, (ss [.asg (.name 1) (.call "leaves_within" (.cons (.v 0) (.cons (.glb "MOST_LEVELS") .nil))),
  .ret (.and_ (.cons (.cmp .isnt (.v 1) .non) (.cons (.cmp .le (.v 1) (.glb "MOST_LEAVES")) .nil)))])⟩
/- _law_pot(script, k): script 0, k 1, cell 2, mixed 3 -/
def b__law_pot : Df := ⟨2, 4, (ss [.asg (.name 2) (.int 0),
  .ife (.cmp .lt (.v 1) (.bi .len (.cons (.v 0) .nil)))
    (ss [.asg (.name 2) (.bin .mod (.bi .abs (.cons (.ix (.v 0) (.v 1)) .nil)) (.bin .pow (.bin .pow (.int 10) (.int 60)) (.int 10)))])
    (ss []),
  .asg (.name 3) (.bin .mod (.bin .pow (.bin .add (.bin .add (.bin .mod (.v 2) (.int 2147483579)) (.bin .mul (.int 5987) (.v 1))) (.int 1)) (.int 5)) (.int 2305843009213693951)),
  .ret (.lst false (.cons (.bin .mul (.v 2) (.bi .int (.cons (.cmp .ge (.v 2) (.bin .pow (.int 10) (.int 18))) .nil))) (.cons (.v 3) (.cons (.int 0) .nil))))])⟩
/- _law_take(pot, many): pot 0, many 1, one 2, other 3, found 4 -/
def b__law_take : Df := ⟨2, 5, (ss [.ife (.cmp .gt (.ix (.v 0) (.int 0)) (.int 0))
    (ss [.asg (.name 4) (.bin .mod (.ix (.v 0) (.int 0)) (.v 1)),
      .setix (.v 0) (.int 0) (.bin .fdiv (.ix (.v 0) (.int 0)) (.v 1)),
      .ret (.v 4)])
    (ss []),
  .setix (.v 0) (.int 2) (.bin .add (.ix (.v 0) (.int 2)) (.int 1)),
  .asg (.name 2) (.bin .mod (.bin .pow (.bin .add (.ix (.v 0) (.int 1)) (.bin .mul (.int 104677) (.ix (.v 0) (.int 2)))) (.int 3)) (.int 2305843009213693921)),
  .asg (.name 3) (.bin .mod (.bin .pow (.bin .add (.bin .add (.v 2) (.bin .mod (.ix (.v 0) (.int 1)) (.int 65519))) (.bin .mul (.int 41) (.ix (.v 0) (.int 2)))) (.int 5)) (.int 2305843009213693907)),
  .ret (.bin .mod (.bin .fdiv (.v 3) (.int 1024)) (.v 1))])⟩
/- _law_test(pot, deep): pot 0, deep 1, way 2, some 3, word 4, turn 5 -/
def b__law_test : Df := ⟨2, 6, (ss [.asg (.name 2) (.call "_law_take" (.cons (.v 0) (.cons (.int 9) .nil))),
  .ife (.or_ (.cons (.cmp .lt (.v 1) (.int 2)) (.cons (.cmp .lt (.v 2) (.int 4)) .nil)))
    (ss [.ife (.cmp .eq (.call "_law_take" (.cons (.v 0) (.cons (.int 3) .nil))) (.int 0))
        (ss [.ret (.tup (.cons (.str "done") (.cons (.ix (.lst true (.cons (.int 0) (.cons (.int 1) (.cons (.int 2) (.cons (.int 12) (.cons (.call "_law_take" (.cons (.v 0) (.cons (.int 6) .nil))) .nil)))))) (.call "_law_take" (.cons (.v 0) (.cons (.int 5) .nil)))) .nil)))])
        (ss []),
      .asg (.name 4) (.ix (.lst true (.cons (.str "is") (.cons (.str "least") (.cons (.str "most") .nil)))) (.call "_law_take" (.cons (.v 0) (.cons (.int 3) .nil)))),
      .ret (.tup (.cons (.v 4) (.cons (.ix (.lst true (.cons (.str "a") (.cons (.str "a") (.cons (.str "b") (.cons (.str "go") (.cons (.str "zz") .nil)))))) (.call "_law_take" (.cons (.v 0) (.cons (.int 5) .nil)))) (.cons (.ix (.lst true (.cons (.int 0) (.cons (.int 1) (.cons (.int 2) (.cons (.int 50) (.cons (.int 99) .nil)))))) (.call "_law_take" (.cons (.v 0) (.cons (.int 5) .nil)))) .nil))))])
    (ss []),
  .ife (.cmp .lt (.v 2) (.int 6))
    (ss [.ret (.tup (.cons (.str "not") (.cons (.call "_law_test" (.cons (.v 0) (.cons (.bin .sub (.v 1) (.int 1)) .nil))) .nil)))])
    (ss []),
  .asg (.name 3) (.bi .tuple (.cons (.lc true (.call "_law_test" (.cons (.v 0) (.cons (.bin .sub (.v 1) (.int 1)) .nil))) (.name 5) (.rng1 (.bin .add (.int 2) (.call "_law_take" (.cons (.v 0) (.cons (.int 2) .nil))))) .none [5]) .nil)),
  .ret (.tup (.cons (.ix (.lst true (.cons (.str "and") (.cons (.str "or") .nil))) (.call "_law_take" (.cons (.v 0) (.cons (.int 2) .nil)))) (.cons (.v 3) .nil)))])⟩
/- _law_odd(pot): pot 0, far 1, some 2 -/
def b__law_odd : Df := ⟨1, 3, (ss [.asg (.name 1) (.call "_law_take" (.cons (.v 0) (.cons (.bin .pow (.int 10) (.int 39)) .nil))),
  .asg (.name 2) (.lst true (.cons .non (.cons (.bl true) (.cons (.bl false) (.cons (.neg (.int 1)) (.cons (.int 0) (.cons (.int 1) (.cons (.int 100) (.cons (.v 1) (.cons (.bin .sub (.int 0) (.v 1)) (.cons (.str "") (.cons (.str "a") (.cons (.str "is") (.cons (.str "done") (.cons (.str "all") (.cons (.tup .nil) (.cons (.lst true .nil) (.cons (.dic true .nil .nil) (.cons (.tup (.cons (.int 0) .nil)) (.cons (.tup (.cons (.tup .nil) .nil)) .nil)))))))))))))))))))),
  .ret (.ix (.bin .add (.v 2) (.lst true (.cons (.tup (.cons (.str "end") .nil)) .nil))) (.call "_law_take" (.cons (.v 0) (.cons (.int 20) .nil))))])⟩
/- _law_bent(pot, held, deep): pot 0, held 1, deep 2, some 3, at 4, way 5 -/
def b__law_bent : Df := ⟨3, 6, (ss [.ife (.or_ (.cons (.not_ (.isi (.v 1) .tuple)) (.cons (.cmp .eq (.v 1) (.tup .nil)) (.cons (.cmp .eq (.v 2) (.int 0)) .nil))))
    (ss [.ife (.and_ (.cons (.isi (.v 1) .int) (.cons (.not_ (.isi (.v 1) .bool)) (.cons (.cmp .gt (.call "_law_take" (.cons (.v 0) (.cons (.int 3) .nil))) (.int 0)) .nil))))
        (ss [.ret (.bin .add (.v 1) (.ix (.lst true (.cons (.int 1) (.cons (.neg (.int 1)) (.cons (.int 13) (.cons (.int 99) .nil))))) (.call "_law_take" (.cons (.v 0) (.cons (.int 4) .nil)))))])
        (ss []),
      .ret (.call "_law_odd" (.cons (.v 0) .nil))])
    (ss []),
  .par [4, 5] (.cons (.call "_law_take" (.cons (.v 0) (.cons (.bi .len (.cons (.v 1) .nil)) .nil))) (.cons (.call "_law_take" (.cons (.v 0) (.cons (.int 12) .nil))) .nil)),
  .ife (.cmp .lt (.v 5) (.int 8))
    (ss [.ret (.bin .add (.bin .add (.sl (.v 1) .none (.some (.v 4))) (.tup (.cons (.call "_law_bent" (.cons (.v 0) (.cons (.ix (.v 1) (.v 4)) (.cons (.bin .sub (.v 2) (.int 1)) .nil)))) .nil))) (.sl (.v 1) (.some (.bin .add (.v 4) (.int 1))) .none))])
    (ss []),
  .asg (.name 3) (.lst true (.cons (.bin .add (.sl (.v 1) .none (.some (.v 4))) (.sl (.v 1) (.some (.bin .add (.v 4) (.int 1))) .none)) (.cons (.bin .add (.bin .add (.sl (.v 1) .none (.some (.v 4))) (.sl (.v 1) (.some (.v 4)) (.some (.bin .add (.v 4) (.int 1))))) (.sl (.v 1) (.some (.v 4)) .none)) (.cons (.bin .add (.v 1) (.tup (.cons (.call "_law_odd" (.cons (.v 0) .nil)) .nil))) .nil)))),
  .ret (.ix (.bin .add (.v 3) (.lst true (.cons (.bi .list (.cons (.v 1) .nil)) .nil))) (.bin .sub (.v 5) (.int 8)))])⟩
/- _law_whole(held, low, high): held 0, low 1, high 2 -/
def b__law_whole : Df := ⟨3, 3, (ss [.ret (.and_ (.cons (.isi (.v 0) .int) (.cons (.not_ (.isi (.v 0) .bool)) (.cons (.chain .le .le (.v 1) (.v 0) (.v 2)) .nil))))])⟩
/- _law_is_name(held): held 0, sign 1 -/
def b__law_is_name : Df := ⟨1, 2, (ss [.ife (.or_ (.cons (.not_ (.isi (.v 0) .str)) (.cons (.not_ (.chain .le .le (.int 1) (.bi .len (.cons (.v 0) .nil)) (.int 6))) .nil)))
    (ss [.ret (.bl false)])
    (ss []),
  .ret (.cmp .eq (.lc true (.v 1) (.name 1) (.e (.v 0)) (.some (.cmp .nin (.v 1) (.str "abcdefghijklmnopqrstuvwxyz"))) [1]) (.lst true .nil))])⟩
/- _law_leaves(held, levels): held 0, levels 1, part 2 -/
def b__law_leaves : Df := ⟨2, 3, (ss [.ife (.or_ (.cons (.not_ (.isi (.v 0) .tuple)) (.cons (.cmp .eq (.v 0) (.tup .nil)) (.cons (.not_ (.isi (.ix (.v 0) (.int 0)) .str)) (.cons (.cmp .eq (.v 1) (.int 0)) .nil)))))
    (ss [.ret (.int 1000)])
    (ss []),
  .ife (.cmp .inn (.ix (.v 0) (.int 0)) (.tup (.cons (.str "is") (.cons (.str "least") (.cons (.str "most") .nil)))))
    (ss [.ret (.ife (.and_ (.cons (.cmp .eq (.bi .len (.cons (.v 0) .nil)) (.int 3)) (.cons (.call "_law_is_name" (.cons (.ix (.v 0) (.int 1)) .nil)) (.cons (.call "_law_whole" (.cons (.ix (.v 0) (.int 2)) (.cons (.int 0) (.cons (.int 99) .nil)))) .nil)))) (.int 1) (.int 1000))])
    (ss []),
  .ife (.cmp .eq (.ix (.v 0) (.int 0)) (.str "done"))
    (ss [.ret (.ife (.and_ (.cons (.cmp .eq (.bi .len (.cons (.v 0) .nil)) (.int 2)) (.cons (.call "_law_whole" (.cons (.ix (.v 0) (.int 1)) (.cons (.int 0) (.cons (.int 12) .nil)))) .nil))) (.int 1) (.int 1000))])
    (ss []),
  .ife (.cmp .eq (.ix (.v 0) (.int 0)) (.str "not"))
    (ss [.ret (.ife (.cmp .eq (.bi .len (.cons (.v 0) .nil)) (.int 2)) (.call "_law_leaves" (.cons (.ix (.v 0) (.int 1)) (.cons (.bin .sub (.v 1) (.int 1)) .nil))) (.int 1000))])
    (ss []),
  .ife (.or_ (.cons (.cmp .nin (.ix (.v 0) (.int 0)) (.tup (.cons (.str "and") (.cons (.str "or") .nil)))) (.cons (.cmp .ne (.bi .len (.cons (.v 0) .nil)) (.int 2)) (.cons (.not_ (.isi (.ix (.v 0) (.int 1)) .tuple)) .nil))))
    (ss [.ret (.int 1000)])
    (ss []),
  .ret (.bin .add (.bi .sum (.cons (.lc true (.call "_law_leaves" (.cons (.v 2) (.cons (.bin .sub (.v 1) (.int 1)) .nil))) (.name 2) (.e (.ix (.v 0) (.int 1))) .none [2]) .nil)) (.bin .mul (.int 1000) (.bi .int (.cons (.not_ (.chain .le .le (.int 2) (.bi .len (.cons (.ix (.v 0) (.int 1)) .nil)) (.int 4))) .nil))))])⟩
/- _law_right(held): held 0 -/
def b__law_right : Df := ⟨1, 1, (ss [.ret (.cmp .eq (.bi .repr (.cons (.lst true (.cons (.call "is_test" (.cons (.v 0) .nil)) (.cons (.callk "is_test" .nil 0 ["thing"] (.cons (.v 0) .nil)) .nil))) .nil)) (.bi .repr (.cons (.bin .mul (.lst true (.cons (.cmp .le (.call "_law_leaves" (.cons (.v 0) (.cons (.int 4) .nil))) (.int 12)) .nil)) (.int 2)) .nil)))])⟩
/- _law_written(): four 0, good 1, bad 2, one 3, ten 4, held 5 -/
def b__law_written : Df := ⟨0, 6, (ss [.asg (.tup [3, 4]) (.tup (.cons (.tup (.cons (.str "is") (.cons (.str "abcdef") (.cons (.int 99) .nil)))) (.cons (.tup (.cons (.str "done") (.cons (.int 12) .nil))) .nil))),
  .asg (.name 0) (.tup (.cons (.str "and") (.cons (.tup (.cons (.v 3) (.cons (.v 4) (.cons (.v 3) (.cons (.v 4) .nil))))) .nil))),
  .asg (.name 1) (.lst true (.cons (.v 3) (.cons (.v 4) (.cons (.tup (.cons (.str "least") (.cons (.str "z") (.cons (.int 0) .nil)))) (.cons (.tup (.cons (.str "most") (.cons (.str "a") (.cons (.int 1) .nil)))) (.cons (.tup (.cons (.str "done") (.cons (.int 0) .nil))) (.cons (.v 0) (.cons (.tup (.cons (.str "not") (.cons (.tup (.cons (.str "not") (.cons (.tup (.cons (.str "not") (.cons (.v 3) .nil))) .nil))) .nil))) .nil)))))))),
  .asg (.name 1) (.bin .add (.v 1) (.lst true (.cons (.tup (.cons (.str "or") (.cons (.tup (.cons (.v 0) (.cons (.v 0) (.cons (.v 0) .nil)))) .nil))) (.cons (.tup (.cons (.str "or") (.cons (.tup (.cons (.v 3) (.cons (.v 4) .nil))) .nil))) (.cons (.tup (.cons (.str "not") (.cons (.tup (.cons (.str "not") (.cons (.v 0) .nil))) .nil))) .nil))))),
  .asg (.name 2) (.lst true (.cons (.tup (.cons (.str "is") (.cons (.str "abcdefg") (.cons (.int 1) .nil)))) (.cons (.tup (.cons (.str "is") (.cons (.str "") (.cons (.int 1) .nil)))) (.cons (.tup (.cons (.str "is") (.cons (.str "aB") (.cons (.int 1) .nil)))) (.cons (.tup (.cons (.str "is") (.cons (.str "a1") (.cons (.int 1) .nil)))) (.cons (.tup (.cons (.str "is") (.cons (.str "a") (.cons (.int 100) .nil)))) (.cons (.tup (.cons (.str "is") (.cons (.str "a") (.cons (.bl true) .nil)))) .nil))))))),
  .asg (.name 2) (.bin .add (.v 2) (.lst true (.cons (.tup (.cons (.str "done") (.cons (.int 13) .nil))) (.cons (.tup (.cons (.str "done") (.cons (.neg (.int 1)) .nil))) (.cons (.tup (.cons (.str "done") (.cons (.bl true) .nil))) (.cons (.tup (.cons (.str "and") (.cons (.tup (.cons (.v 3) .nil)) .nil))) (.cons (.tup (.cons (.str "and") (.cons (.tup (.cons (.v 3) (.cons (.v 4) (.cons (.v 3) (.cons (.v 4) (.cons (.v 3) .nil)))))) .nil))) .nil))))))),
  .asg (.name 2) (.bin .add (.v 2) (.lst true (.cons (.tup (.cons (.str "or") (.cons (.tup (.cons (.v 0) (.cons (.v 0) (.cons (.v 0) (.cons (.v 3) .nil))))) .nil))) (.cons (.tup (.cons (.str "not") (.cons (.tup (.cons (.str "not") (.cons (.tup (.cons (.str "not") (.cons (.tup (.cons (.str "not") (.cons (.v 3) .nil))) .nil))) .nil))) .nil))) .nil)))),
  .asg (.name 2) (.bin .add (.v 2) (.lst true (.cons (.tup (.cons (.str "not") (.cons (.tup (.cons (.str "not") (.cons (.tup (.cons (.str "not") (.cons (.v 0) .nil))) .nil))) .nil))) (.cons (.tup (.cons (.str "xor") (.cons (.tup (.cons (.v 3) (.cons (.v 4) .nil))) .nil))) (.cons (.tup (.cons (.str "and") (.cons (.lst true (.cons (.v 3) (.cons (.v 4) .nil))) .nil))) (.cons (.tup (.cons (.str "and") (.cons (.v 3) (.cons (.v 4) .nil)))) .nil)))))),
  .asg (.name 2) (.bin .add (.v 2) (.lst true (.cons (.tup (.cons (.str "is") (.cons (.str "a") .nil))) (.cons (.tup (.cons (.str "not") .nil)) (.cons (.tup (.cons (.str "is") (.cons (.tup (.cons (.str "a") .nil)) (.cons (.int 1) .nil)))) (.cons (.str "done") (.cons (.tup (.cons (.str "done") (.cons (.int 1) (.cons (.int 1) .nil)))) (.cons (.tup (.cons (.str "not") (.cons (.v 3) (.cons (.v 3) .nil)))) (.cons (.tup (.cons (.str "is") (.cons (.str "a") (.cons (.int 1) (.cons (.int 1) .nil))))) .nil))))))))),
  .ret (.cmp .eq (.lc true (.call "is_test" (.cons (.v 5) .nil)) (.name 5) (.e (.bin .add (.v 1) (.v 2))) .none [5]) (.bin .add (.bin .mul (.lst true (.cons (.bl true) .nil)) (.bi .len (.cons (.v 1) .nil))) (.bin .mul (.lst true (.cons (.bl false) .nil)) (.bi .len (.cons (.v 2) .nil)))))])⟩
/- law(script): script 0, k 1, pot 2, turn 3, test 4, things 5, held 6, bend 7 -/
def b_law : Df := ⟨1, 8, (ss [.for_ (.name 1) (.rng1 (.bi .max2 (.cons (.int 1) (.cons (.bi .min2 (.cons (.int 12) (.cons (.bi .len (.cons (.v 0) .nil)) .nil))) .nil))))
    (ss [.asg (.name 2) (.call "_law_pot" (.cons (.v 0) (.cons (.v 1) .nil))),
      .for_ (.name 3) (.rng1 (.int 4))
        (ss [.asg (.name 4) (.call "_law_test" (.cons (.v 2) (.cons (.bin .add (.int 1) (.call "_law_take" (.cons (.v 2) (.cons (.int 4) .nil)))) .nil))),
          .asg (.name 5) (.lst true (.cons (.v 4) (.cons (.tup (.cons (.str "not") (.cons (.v 4) .nil))) (.cons (.tup (.cons (.str "and") (.cons (.tup (.cons (.v 4) (.cons (.v 4) .nil))) .nil))) (.cons (.tup (.cons (.v 4) .nil)) (.cons (.bi .list (.cons (.v 4) .nil)) .nil)))))),
          .for_ (.name 6) (.e (.bin .add (.v 5) (.lc true (.call "_law_bent" (.cons (.v 2) (.cons (.v 4) (.cons (.bin .add (.int 1) (.call "_law_take" (.cons (.v 2) (.cons (.int 5) .nil)))) .nil)))) (.name 7) (.rng1 (.int 12)) .none [7])))
            (ss [.ife (.not_ (.call "_law_right" (.cons (.v 6) .nil)))
                (ss [.ret (.bl false)])
                (ss [])])])]),
  .ret (.call "_law_written" .nil)])⟩
def gl : List (PySem.Str × Mi.D) := [("MOST_LETTERS", .int 6),
  ("LETTERS", .str "abcdefghijklmnopqrstuvwxyz"),
  ("MOST_WORTH", .int 99),
  ("DONE", .str "done"),
  ("MOST_DONE", .int 12),
  ("NOT", .str "not"),
  ("MOST_PARTS", .int 4),
  ("JOINERS", .tup [.str "and", .str "or"]),
  ("MOST_LEVELS", .int 4),
  ("MOST_LEAVES", .int 12)]
def tl : List (PySem.Str × List PySem.Str × List Mi.D) := [("WORTHS", ["is", "least", "most"], [.glo "is_just", .glo "is_no_less", .glo "is_no_more"])]
def kl : Mi.KwL := [("is_test", [((0, ["thing"]), [0])])]
def PG : Mi.Pg := ⟨[("is_between", b_is_between),
  ("is_name", b_is_name),
  ("is_just", b_is_just),
  ("is_no_less", b_is_no_less),
  ("is_no_more", b_is_no_more),
  ("leaves_within", b_leaves_within),
  ("is_test", b_is_test),
  ("_law_pot", b__law_pot),
  ("_law_take", b__law_take),
  ("_law_test", b__law_test),
  ("_law_odd", b__law_odd),
  ("_law_bent", b__law_bent),
  ("_law_whole", b__law_whole),
  ("_law_is_name", b__law_is_name),
  ("_law_leaves", b__law_leaves),
  ("_law_right", b__law_right),
  ("_law_written", b__law_written),
  ("law", b_law)], glbOf gl tl, kwOf kl⟩
def top (i : Nat) : Stmt := PySem.Challenge.pw_mighthave_k12_what_is_a_test.main.body.getD i (.Pass ⟨0, 0, 0, 0⟩)
def d_is_between : He.DefD := ⟨("is_between", none), "is_between", "is_between", defArgs (top 3), defBody (top 3), defScope (top 3), [], []⟩
def d_is_name : He.DefD := ⟨("is_name", none), "is_name", "is_name", defArgs (top 4), defBody (top 4), defScope (top 4), [], []⟩
def d_is_just : He.DefD := ⟨("is_just", none), "is_just", "is_just", defArgs (top 14), defBody (top 14), defScope (top 14), [], []⟩
def d_is_no_less : He.DefD := ⟨("is_no_less", none), "is_no_less", "is_no_less", defArgs (top 15), defBody (top 15), defScope (top 15), [], []⟩
def d_is_no_more : He.DefD := ⟨("is_no_more", none), "is_no_more", "is_no_more", defArgs (top 16), defBody (top 16), defScope (top 16), [], []⟩
def d_leaves_within : He.DefD := ⟨("leaves_within", none), "leaves_within", "leaves_within", defArgs (top 18), defBody (top 18), defScope (top 18), [], []⟩
def d_is_test : He.DefD := ⟨("is_test", none), "is_test", "is_test", defArgs (top 19), defBody (top 19), defScope (top 19), [], []⟩
def d__law_pot : He.DefD := ⟨("_law_pot", none), "_law_pot", "_law_pot", defArgs (top 21), defBody (top 21), defScope (top 21), [], []⟩
def d__law_take : He.DefD := ⟨("_law_take", none), "_law_take", "_law_take", defArgs (top 22), defBody (top 22), defScope (top 22), [], []⟩
def d__law_test : He.DefD := ⟨("_law_test", none), "_law_test", "_law_test", defArgs (top 23), defBody (top 23), defScope (top 23), [], []⟩
def d__law_odd : He.DefD := ⟨("_law_odd", none), "_law_odd", "_law_odd", defArgs (top 24), defBody (top 24), defScope (top 24), [], []⟩
def d__law_bent : He.DefD := ⟨("_law_bent", none), "_law_bent", "_law_bent", defArgs (top 25), defBody (top 25), defScope (top 25), [], []⟩
def d__law_whole : He.DefD := ⟨("_law_whole", none), "_law_whole", "_law_whole", defArgs (top 26), defBody (top 26), defScope (top 26), [], []⟩
def d__law_is_name : He.DefD := ⟨("_law_is_name", none), "_law_is_name", "_law_is_name", defArgs (top 27), defBody (top 27), defScope (top 27), [], []⟩
def d__law_leaves : He.DefD := ⟨("_law_leaves", none), "_law_leaves", "_law_leaves", defArgs (top 28), defBody (top 28), defScope (top 28), [], []⟩
def d__law_right : He.DefD := ⟨("_law_right", none), "_law_right", "_law_right", defArgs (top 29), defBody (top 29), defScope (top 29), [], []⟩
def d__law_written : He.DefD := ⟨("_law_written", none), "_law_written", "_law_written", defArgs (top 30), defBody (top 30), defScope (top 30), [], []⟩
def d_law : He.DefD := ⟨("law", none), "law", "law", defArgs (top 31), defBody (top 31), defScope (top 31), [], []⟩
def fn : List He.DefD := [d_is_between, d_is_name, d_is_just, d_is_no_less, d_is_no_more, d_leaves_within, d_is_test, d__law_pot, d__law_take, d__law_test, d__law_odd, d__law_bent, d__law_whole, d__law_is_name, d__law_leaves, d__law_right, d__law_written, d_law]
def fa : List He.Fa := [.glo "is_between", .glo "is_name", .glo "is_just", .glo "is_no_less", .glo "is_no_more", .glo "leaves_within", .glo "is_test", .glo "_law_pot", .glo "_law_take", .glo "_law_test", .glo "_law_odd", .glo "_law_bent", .glo "_law_whole", .glo "_law_is_name", .glo "_law_leaves", .glo "_law_right", .glo "_law_written", .glo "law"]
abbrev R : PySem.W.OpenRow := PySem.W.OpenLaw.row PySem.Challenge.rw_mighthave_k12_what_is_a_test
abbrev hk : PySem.W.Hook := He.hookX 4 fa fn (tabsOf tl) [] (exB gl tl)
def ob (s : PySem.W.SharedT) : He.AlX := He.obsX 4 fa fn (tabsOf tl) [] (exB gl tl) (HandSHeadRun.getT s)
theorem ob_eq (s : PySem.W.SharedT) : ob s = hk.obs s.abs := He.obsX_eq (HandSHeadRun.getT_eq s)
def nm0 : List PySem.Str := ["__name__", "MOST_LETTERS", "LETTERS", "is_between", "is_name", "MOST_WORTH", "MOST_DONE", "MOST_LEVELS", "MOST_LEAVES", "MOST_PARTS", "DONE", "NOT", "JOINERS", "is_just", "is_no_less", "is_no_more", "WORTHS", "leaves_within", "is_test", "_law_pot", "_law_take", "_law_test", "_law_odd", "_law_bent", "_law_whole"]
def nm1 : List PySem.Str := ["_law_is_name", "_law_leaves", "_law_right", "_law_written"]
def names : List PySem.Str := nm0 ++ nm1
theorem run0 (w : World) : HandSHeadRun.RunEq R (PySem.W.view R.prog [31]) hk ob 60000 names (w.withFollow "special-get-raises" false) := by
  intro os
  kernel_rfl
theorem run1 (w : World) : HandSHeadRun.RunEq R (PySem.W.view R.prog [31]) hk ob 60000 names (w.withFollow "special-get-raises" true) := by
  intro os
  kernel_rfl
theorem run (w : World) : HandSHeadRun.RunEq R (PySem.W.view R.prog [31]) hk ob 60000 names w := PySem.W.byRow2 "special-get-raises" (P := fun w => HandSHeadRun.RunEq R (PySem.W.view R.prog [31]) hk ob 60000 names w) run0 run1 w
section
variable {K : PySem.W.Frag} {h : Heap} {mg : PySem.Str → Option Value}
theorem k_is_between (X : K.In h) (G : h.Ns mainGlobals mg) (c : He.SaysD fa fn K) : ∃ fd, DOk PG K mg (PG.defs.map (·.1)) "is_between" b_is_between (He.ga K "is_between") fd ["thing", "least", "most"] := by
  obtain ⟨fd, F⟩ := c.def_ 0 (d := d_is_between) rfl
  refine ⟨fd, ⟨He.glo_ok X G (c.fact 0 (f := .glo "is_between") rfl), F.kp, (F.bindsN fun _ _ _ _ _ _ us hl => match us, hl with | [_, _, _], _ => rfl),
    ⟨_, _, _, _, _, _, _, ["thing", "least", "most"], F, ⟨rfl, rfl, rfl, by decide +kernel, rfl, by decide +kernel, by decide +kernel⟩, rfl, rfl, by decide +kernel⟩,
    fun m ks hne => absurd (kw_none (l := kl) (f := "is_between") (by decide +kernel) m ks) hne⟩⟩
theorem k_is_name (X : K.In h) (G : h.Ns mainGlobals mg) (c : He.SaysD fa fn K) : ∃ fd, DOk PG K mg (PG.defs.map (·.1)) "is_name" b_is_name (He.ga K "is_name") fd ["thing"] := by
  obtain ⟨fd, F⟩ := c.def_ 1 (d := d_is_name) rfl
  refine ⟨fd, ⟨He.glo_ok X G (c.fact 1 (f := .glo "is_name") rfl), F.kp, (F.bindsN fun _ _ _ _ _ _ us hl => match us, hl with | [_], _ => rfl),
    ⟨_, _, _, _, _, _, _, ["thing", "sign"], F, ⟨rfl, rfl, rfl, by decide +kernel, rfl, by decide +kernel, by decide +kernel⟩, rfl, rfl, by decide +kernel⟩,
    fun m ks hne => absurd (kw_none (l := kl) (f := "is_name") (by decide +kernel) m ks) hne⟩⟩
theorem k_is_just (X : K.In h) (G : h.Ns mainGlobals mg) (c : He.SaysD fa fn K) : ∃ fd, DOk PG K mg (PG.defs.map (·.1)) "is_just" b_is_just (He.ga K "is_just") fd ["number", "k"] := by
  obtain ⟨fd, F⟩ := c.def_ 2 (d := d_is_just) rfl
  refine ⟨fd, ⟨He.glo_ok X G (c.fact 2 (f := .glo "is_just") rfl), F.kp, (F.bindsN fun _ _ _ _ _ _ us hl => match us, hl with | [_, _], _ => rfl),
    ⟨_, _, _, _, _, _, _, ["number", "k"], F, ⟨rfl, rfl, rfl, by decide +kernel, rfl, by decide +kernel, by decide +kernel⟩, rfl, rfl, by decide +kernel⟩,
    fun m ks hne => absurd (kw_none (l := kl) (f := "is_just") (by decide +kernel) m ks) hne⟩⟩
theorem k_is_no_less (X : K.In h) (G : h.Ns mainGlobals mg) (c : He.SaysD fa fn K) : ∃ fd, DOk PG K mg (PG.defs.map (·.1)) "is_no_less" b_is_no_less (He.ga K "is_no_less") fd ["number", "k"] := by
  obtain ⟨fd, F⟩ := c.def_ 3 (d := d_is_no_less) rfl
  refine ⟨fd, ⟨He.glo_ok X G (c.fact 3 (f := .glo "is_no_less") rfl), F.kp, (F.bindsN fun _ _ _ _ _ _ us hl => match us, hl with | [_, _], _ => rfl),
    ⟨_, _, _, _, _, _, _, ["number", "k"], F, ⟨rfl, rfl, rfl, by decide +kernel, rfl, by decide +kernel, by decide +kernel⟩, rfl, rfl, by decide +kernel⟩,
    fun m ks hne => absurd (kw_none (l := kl) (f := "is_no_less") (by decide +kernel) m ks) hne⟩⟩
theorem k_is_no_more (X : K.In h) (G : h.Ns mainGlobals mg) (c : He.SaysD fa fn K) : ∃ fd, DOk PG K mg (PG.defs.map (·.1)) "is_no_more" b_is_no_more (He.ga K "is_no_more") fd ["number", "k"] := by
  obtain ⟨fd, F⟩ := c.def_ 4 (d := d_is_no_more) rfl
  refine ⟨fd, ⟨He.glo_ok X G (c.fact 4 (f := .glo "is_no_more") rfl), F.kp, (F.bindsN fun _ _ _ _ _ _ us hl => match us, hl with | [_, _], _ => rfl),
    ⟨_, _, _, _, _, _, _, ["number", "k"], F, ⟨rfl, rfl, rfl, by decide +kernel, rfl, by decide +kernel, by decide +kernel⟩, rfl, rfl, by decide +kernel⟩,
    fun m ks hne => absurd (kw_none (l := kl) (f := "is_no_more") (by decide +kernel) m ks) hne⟩⟩
theorem k_leaves_within (X : K.In h) (G : h.Ns mainGlobals mg) (c : He.SaysD fa fn K) : ∃ fd, DOk PG K mg (PG.defs.map (·.1)) "leaves_within" b_leaves_within (He.ga K "leaves_within") fd ["thing", "levels"] := by
  obtain ⟨fd, F⟩ := c.def_ 5 (d := d_leaves_within) rfl
  refine ⟨fd, ⟨He.glo_ok X G (c.fact 5 (f := .glo "leaves_within") rfl), F.kp, (F.bindsN fun _ _ _ _ _ _ us hl => match us, hl with | [_, _], _ => rfl),
    ⟨_, _, _, _, _, _, _, ["thing", "levels", "found", "word", "rest", "part"], F, ⟨rfl, rfl, rfl, by decide +kernel, rfl, by decide +kernel, by decide +kernel⟩, rfl, rfl, by decide +kernel⟩,
    fun m ks hne => absurd (kw_none (l := kl) (f := "leaves_within") (by decide +kernel) m ks) hne⟩⟩
theorem k_is_test (X : K.In h) (G : h.Ns mainGlobals mg) (c : He.SaysD fa fn K) : ∃ fd, DOk PG K mg (PG.defs.map (·.1)) "is_test" b_is_test (He.ga K "is_test") fd ["thing"] := by
  obtain ⟨fd, F⟩ := c.def_ 6 (d := d_is_test) rfl
  have kb : ∀ m ks, PG.kw "is_test" m ks ≠ [] → KBn K fd ["thing"] m ks (fun us ws => pickL (PG.kw "is_test" m ks) (us ++ ws)) (fun us ws => pickL (PG.kw "is_test" m ks) (us ++ ws)) := fun m ks hne => by
    have k := kw_some (l := kl) (f := "is_test") rfl hne
    have e : PG.kw "is_test" m ks = kwOf kl "is_test" m ks := rfl
    rw [e]
    generalize kwOf kl "is_test" m ks = is at k ⊢
    simp only [List.mem_cons, List.mem_nil_iff, Prod.mk.injEq, or_false] at k
    rcases k with ⟨⟨rfl, rfl⟩, rfl⟩
    · exact kbN F 0 ["thing"] _ fun _ _ _ _ _ _ us ws hu hw => match us, ws, hu, hw with | [], [_], _, _ => rfl
  refine ⟨fd, ⟨He.glo_ok X G (c.fact 6 (f := .glo "is_test") rfl), F.kp, (F.bindsN fun _ _ _ _ _ _ us hl => match us, hl with | [_], _ => rfl),
    ⟨_, _, _, _, _, _, _, ["thing", "leaves"], F, ⟨rfl, rfl, rfl, by decide +kernel, rfl, by decide +kernel, by decide +kernel⟩, rfl, rfl, by decide +kernel⟩,
    kb⟩⟩
theorem k__law_pot (X : K.In h) (G : h.Ns mainGlobals mg) (c : He.SaysD fa fn K) : ∃ fd, DOk PG K mg (PG.defs.map (·.1)) "_law_pot" b__law_pot (He.ga K "_law_pot") fd ["script", "k"] := by
  obtain ⟨fd, F⟩ := c.def_ 7 (d := d__law_pot) rfl
  refine ⟨fd, ⟨He.glo_ok X G (c.fact 7 (f := .glo "_law_pot") rfl), F.kp, (F.bindsN fun _ _ _ _ _ _ us hl => match us, hl with | [_, _], _ => rfl),
    ⟨_, _, _, _, _, _, _, ["script", "k", "cell", "mixed"], F, ⟨rfl, rfl, rfl, by decide +kernel, rfl, by decide +kernel, by decide +kernel⟩, rfl, rfl, by decide +kernel⟩,
    fun m ks hne => absurd (kw_none (l := kl) (f := "_law_pot") (by decide +kernel) m ks) hne⟩⟩
theorem k__law_take (X : K.In h) (G : h.Ns mainGlobals mg) (c : He.SaysD fa fn K) : ∃ fd, DOk PG K mg (PG.defs.map (·.1)) "_law_take" b__law_take (He.ga K "_law_take") fd ["pot", "many"] := by
  obtain ⟨fd, F⟩ := c.def_ 8 (d := d__law_take) rfl
  refine ⟨fd, ⟨He.glo_ok X G (c.fact 8 (f := .glo "_law_take") rfl), F.kp, (F.bindsN fun _ _ _ _ _ _ us hl => match us, hl with | [_, _], _ => rfl),
    ⟨_, _, _, _, _, _, _, ["pot", "many", "one", "other", "found"], F, ⟨rfl, rfl, rfl, by decide +kernel, rfl, by decide +kernel, by decide +kernel⟩, rfl, rfl, by decide +kernel⟩,
    fun m ks hne => absurd (kw_none (l := kl) (f := "_law_take") (by decide +kernel) m ks) hne⟩⟩
theorem k__law_test (X : K.In h) (G : h.Ns mainGlobals mg) (c : He.SaysD fa fn K) : ∃ fd, DOk PG K mg (PG.defs.map (·.1)) "_law_test" b__law_test (He.ga K "_law_test") fd ["pot", "deep"] := by
  obtain ⟨fd, F⟩ := c.def_ 9 (d := d__law_test) rfl
  refine ⟨fd, ⟨He.glo_ok X G (c.fact 9 (f := .glo "_law_test") rfl), F.kp, (F.bindsN fun _ _ _ _ _ _ us hl => match us, hl with | [_, _], _ => rfl),
    ⟨_, _, _, _, _, _, _, ["pot", "deep", "way", "some", "word", "turn"], F, ⟨rfl, rfl, rfl, by decide +kernel, rfl, by decide +kernel, by decide +kernel⟩, rfl, rfl, by decide +kernel⟩,
    fun m ks hne => absurd (kw_none (l := kl) (f := "_law_test") (by decide +kernel) m ks) hne⟩⟩
theorem k__law_odd (X : K.In h) (G : h.Ns mainGlobals mg) (c : He.SaysD fa fn K) : ∃ fd, DOk PG K mg (PG.defs.map (·.1)) "_law_odd" b__law_odd (He.ga K "_law_odd") fd ["pot"] := by
  obtain ⟨fd, F⟩ := c.def_ 10 (d := d__law_odd) rfl
  refine ⟨fd, ⟨He.glo_ok X G (c.fact 10 (f := .glo "_law_odd") rfl), F.kp, (F.bindsN fun _ _ _ _ _ _ us hl => match us, hl with | [_], _ => rfl),
    ⟨_, _, _, _, _, _, _, ["pot", "far", "some"], F, ⟨rfl, rfl, rfl, by decide +kernel, rfl, by decide +kernel, by decide +kernel⟩, rfl, rfl, by decide +kernel⟩,
    fun m ks hne => absurd (kw_none (l := kl) (f := "_law_odd") (by decide +kernel) m ks) hne⟩⟩
theorem k__law_bent (X : K.In h) (G : h.Ns mainGlobals mg) (c : He.SaysD fa fn K) : ∃ fd, DOk PG K mg (PG.defs.map (·.1)) "_law_bent" b__law_bent (He.ga K "_law_bent") fd ["pot", "held", "deep"] := by
  obtain ⟨fd, F⟩ := c.def_ 11 (d := d__law_bent) rfl
  refine ⟨fd, ⟨He.glo_ok X G (c.fact 11 (f := .glo "_law_bent") rfl), F.kp, (F.bindsN fun _ _ _ _ _ _ us hl => match us, hl with | [_, _, _], _ => rfl),
    ⟨_, _, _, _, _, _, _, ["pot", "held", "deep", "some", "at", "way"], F, ⟨rfl, rfl, rfl, by decide +kernel, rfl, by decide +kernel, by decide +kernel⟩, rfl, rfl, by decide +kernel⟩,
    fun m ks hne => absurd (kw_none (l := kl) (f := "_law_bent") (by decide +kernel) m ks) hne⟩⟩
theorem k__law_whole (X : K.In h) (G : h.Ns mainGlobals mg) (c : He.SaysD fa fn K) : ∃ fd, DOk PG K mg (PG.defs.map (·.1)) "_law_whole" b__law_whole (He.ga K "_law_whole") fd ["held", "low", "high"] := by
  obtain ⟨fd, F⟩ := c.def_ 12 (d := d__law_whole) rfl
  refine ⟨fd, ⟨He.glo_ok X G (c.fact 12 (f := .glo "_law_whole") rfl), F.kp, (F.bindsN fun _ _ _ _ _ _ us hl => match us, hl with | [_, _, _], _ => rfl),
    ⟨_, _, _, _, _, _, _, ["held", "low", "high"], F, ⟨rfl, rfl, rfl, by decide +kernel, rfl, by decide +kernel, by decide +kernel⟩, rfl, rfl, by decide +kernel⟩,
    fun m ks hne => absurd (kw_none (l := kl) (f := "_law_whole") (by decide +kernel) m ks) hne⟩⟩
theorem k__law_is_name (X : K.In h) (G : h.Ns mainGlobals mg) (c : He.SaysD fa fn K) : ∃ fd, DOk PG K mg (PG.defs.map (·.1)) "_law_is_name" b__law_is_name (He.ga K "_law_is_name") fd ["held"] := by
  obtain ⟨fd, F⟩ := c.def_ 13 (d := d__law_is_name) rfl
  refine ⟨fd, ⟨He.glo_ok X G (c.fact 13 (f := .glo "_law_is_name") rfl), F.kp, (F.bindsN fun _ _ _ _ _ _ us hl => match us, hl with | [_], _ => rfl),
    ⟨_, _, _, _, _, _, _, ["held", "sign"], F, ⟨rfl, rfl, rfl, by decide +kernel, rfl, by decide +kernel, by decide +kernel⟩, rfl, rfl, by decide +kernel⟩,
    fun m ks hne => absurd (kw_none (l := kl) (f := "_law_is_name") (by decide +kernel) m ks) hne⟩⟩
theorem k__law_leaves (X : K.In h) (G : h.Ns mainGlobals mg) (c : He.SaysD fa fn K) : ∃ fd, DOk PG K mg (PG.defs.map (·.1)) "_law_leaves" b__law_leaves (He.ga K "_law_leaves") fd ["held", "levels"] := by
  obtain ⟨fd, F⟩ := c.def_ 14 (d := d__law_leaves) rfl
  refine ⟨fd, ⟨He.glo_ok X G (c.fact 14 (f := .glo "_law_leaves") rfl), F.kp, (F.bindsN fun _ _ _ _ _ _ us hl => match us, hl with | [_, _], _ => rfl),
    ⟨_, _, _, _, _, _, _, ["held", "levels", "part"], F, ⟨rfl, rfl, rfl, by decide +kernel, rfl, by decide +kernel, by decide +kernel⟩, rfl, rfl, by decide +kernel⟩,
    fun m ks hne => absurd (kw_none (l := kl) (f := "_law_leaves") (by decide +kernel) m ks) hne⟩⟩
theorem k__law_right (X : K.In h) (G : h.Ns mainGlobals mg) (c : He.SaysD fa fn K) : ∃ fd, DOk PG K mg (PG.defs.map (·.1)) "_law_right" b__law_right (He.ga K "_law_right") fd ["held"] := by
  obtain ⟨fd, F⟩ := c.def_ 15 (d := d__law_right) rfl
  refine ⟨fd, ⟨He.glo_ok X G (c.fact 15 (f := .glo "_law_right") rfl), F.kp, (F.bindsN fun _ _ _ _ _ _ us hl => match us, hl with | [_], _ => rfl),
    ⟨_, _, _, _, _, _, _, ["held"], F, ⟨rfl, rfl, rfl, by decide +kernel, rfl, by decide +kernel, by decide +kernel⟩, rfl, rfl, by decide +kernel⟩,
    fun m ks hne => absurd (kw_none (l := kl) (f := "_law_right") (by decide +kernel) m ks) hne⟩⟩
theorem k__law_written (X : K.In h) (G : h.Ns mainGlobals mg) (c : He.SaysD fa fn K) : ∃ fd, DOk PG K mg (PG.defs.map (·.1)) "_law_written" b__law_written (He.ga K "_law_written") fd [] := by
  obtain ⟨fd, F⟩ := c.def_ 16 (d := d__law_written) rfl
  refine ⟨fd, ⟨He.glo_ok X G (c.fact 16 (f := .glo "_law_written") rfl), F.kp, (F.bindsN fun _ _ _ _ _ _ us hl => match us, hl with | [], _ => rfl),
    ⟨_, _, _, _, _, _, _, ["four", "good", "bad", "one", "ten", "held"], F, ⟨rfl, rfl, rfl, by decide +kernel, rfl, by decide +kernel, by decide +kernel⟩, rfl, rfl, by decide +kernel⟩,
    fun m ks hne => absurd (kw_none (l := kl) (f := "_law_written") (by decide +kernel) m ks) hne⟩⟩
theorem k_law (X : K.In h) (G : h.Ns mainGlobals mg) (c : He.SaysD fa fn K) : ∃ fd, DOk PG K mg (PG.defs.map (·.1)) "law" b_law (He.ga K "law") fd ["script"] ∧ ∀ (s : Shared) (u : Value), BindsTo s fd ⟨[u], []⟩ [("script", u)] := by
  obtain ⟨fd, F⟩ := c.def_ 17 (d := d_law) rfl
  refine ⟨fd, ⟨⟨He.glo_ok X G (c.fact 17 (f := .glo "law") rfl), F.kp, (F.bindsN fun _ _ _ _ _ _ us hl => match us, hl with | [_], _ => rfl),
    ⟨_, _, _, _, _, _, _, ["script", "k", "pot", "turn", "test", "things", "held", "bend"], F, ⟨rfl, rfl, rfl, by decide +kernel, rfl, by decide +kernel, by decide +kernel⟩, rfl, rfl, by decide +kernel⟩,
    fun m ks hne => absurd (kw_none (l := kl) (f := "law") (by decide +kernel) m ks) hne⟩, ?_⟩⟩
  have b := FunD.bindsA (ps := ["script"]) F fun _ _ _ _ _ _ us hl => match us, hl with | [_], _ => rfl
  exact fun s u => b s [u] rfl
theorem all_ok (X : K.In h) (G : h.Ns mainGlobals mg) (c : He.SaysD fa fn K) : ∀ p ∈ PG.defs, ∃ a fd ps, DOk PG K mg (PG.defs.map (·.1)) p.1 p.2 a fd ps := by
  refine List.forall_mem_cons.mpr ⟨let ⟨fd, k⟩ := k_is_between X G c; ⟨_, fd, _, k⟩, ?_⟩
  refine List.forall_mem_cons.mpr ⟨let ⟨fd, k⟩ := k_is_name X G c; ⟨_, fd, _, k⟩, ?_⟩
  refine List.forall_mem_cons.mpr ⟨let ⟨fd, k⟩ := k_is_just X G c; ⟨_, fd, _, k⟩, ?_⟩
  refine List.forall_mem_cons.mpr ⟨let ⟨fd, k⟩ := k_is_no_less X G c; ⟨_, fd, _, k⟩, ?_⟩
  refine List.forall_mem_cons.mpr ⟨let ⟨fd, k⟩ := k_is_no_more X G c; ⟨_, fd, _, k⟩, ?_⟩
  refine List.forall_mem_cons.mpr ⟨let ⟨fd, k⟩ := k_leaves_within X G c; ⟨_, fd, _, k⟩, ?_⟩
  refine List.forall_mem_cons.mpr ⟨let ⟨fd, k⟩ := k_is_test X G c; ⟨_, fd, _, k⟩, ?_⟩
  refine List.forall_mem_cons.mpr ⟨let ⟨fd, k⟩ := k__law_pot X G c; ⟨_, fd, _, k⟩, ?_⟩
  refine List.forall_mem_cons.mpr ⟨let ⟨fd, k⟩ := k__law_take X G c; ⟨_, fd, _, k⟩, ?_⟩
  refine List.forall_mem_cons.mpr ⟨let ⟨fd, k⟩ := k__law_test X G c; ⟨_, fd, _, k⟩, ?_⟩
  refine List.forall_mem_cons.mpr ⟨let ⟨fd, k⟩ := k__law_odd X G c; ⟨_, fd, _, k⟩, ?_⟩
  refine List.forall_mem_cons.mpr ⟨let ⟨fd, k⟩ := k__law_bent X G c; ⟨_, fd, _, k⟩, ?_⟩
  refine List.forall_mem_cons.mpr ⟨let ⟨fd, k⟩ := k__law_whole X G c; ⟨_, fd, _, k⟩, ?_⟩
  refine List.forall_mem_cons.mpr ⟨let ⟨fd, k⟩ := k__law_is_name X G c; ⟨_, fd, _, k⟩, ?_⟩
  refine List.forall_mem_cons.mpr ⟨let ⟨fd, k⟩ := k__law_leaves X G c; ⟨_, fd, _, k⟩, ?_⟩
  refine List.forall_mem_cons.mpr ⟨let ⟨fd, k⟩ := k__law_right X G c; ⟨_, fd, _, k⟩, ?_⟩
  refine List.forall_mem_cons.mpr ⟨let ⟨fd, k⟩ := k__law_written X G c; ⟨_, fd, _, k⟩, ?_⟩
  refine List.forall_mem_cons.mpr ⟨let ⟨fd, k, _⟩ := k_law X G c; ⟨_, fd, _, k⟩, ?_⟩
  exact fun _ hp => absurd hp List.not_mem_nil
end
end K
/-! ### k12: what the program's functions answer -/
namespace K
open PySem Mi
def betw (d : Mi.D) (lo hi : Int) : Bool := match d with
  | .int i => decide (lo ≤ i) && decide (i ≤ hi)
  | _ => false
def plain1 : Mi.D → Bool
  | .loc _ | .ro _ | .glo _ | .tab _ _ => false
  | .str x => decide (x.length ≤ 1000)
  | .tup xs => decide (xs.length ≤ 1000)
  | .lst xs => decide (xs.length ≤ 1000)
  | _ => true
theorem up {m k : Nat} (h : k + 1 ≤ m) : ∃ n, m = n + 1 ∧ k ≤ n := ⟨m - 1, by omega, by omega⟩
theorem r_between {m : Nat} (d : Mi.D) (lo hi : Int) (h : plain1 d = true) (hm : 1 ≤ m) : runN PG m "is_between" [d, .int lo, .int hi] = some (.bl (betw d lo hi)) := by
  obtain ⟨n, rfl, _⟩ := up hm
  rw [runN_open (d := b_is_between) (by rfl) rfl]
  cases d <;> first | (simp [plain1] at h; done) | skip
  all_goals simp [b_is_between, isT, betw]
  · rename_i i
    by_cases h1 : lo ≤ i <;> simp [h1]
theorem r_whole {m : Nat} (d : Mi.D) (lo hi : Int) (h : plain1 d = true) (hm : 1 ≤ m) : runN PG m "_law_whole" [d, .int lo, .int hi] = some (.bl (betw d lo hi)) := by
  obtain ⟨n, rfl, _⟩ := up hm
  rw [runN_open (d := b__law_whole) (by rfl) rfl]
  cases d <;> first | (simp [plain1] at h; done) | skip
  all_goals simp [b__law_whole, isT, betw]
  · rename_i i
    by_cases h1 : lo ≤ i <;> simp [h1]
def letters : Str := "abcdefghijklmnopqrstuvwxyz"
def sgn (c : Nat) : Bool := strIn ⟨#[c]⟩ letters
def isnm : Mi.D → Bool
  | .str x => decide (1 ≤ (x.length : Int)) && decide ((x.length : Int) ≤ 6) && x.cps.toList.all sgn
  | _ => false
theorem g_LETTERS : PG.glb "LETTERS" = some (.str letters) := rfl
theorem g_MOST_LETTERS : PG.glb "MOST_LETTERS" = some (.int 6) := rfl
theorem signs_len {x : Str} (h : x.length ≤ 1000) : (x.cps.toList.map fun c => Mi.D.str ⟨#[c]⟩).length ≤ big := by
  rw [List.length_map]
  have e : x.cps.toList.length = x.length := by simp [Str.length]
  unfold big
  omega
theorem r_name {m : Nat} (d : Mi.D) (h : plain1 d = true) (hm : 1 ≤ m) : runN PG m "is_name" [d] = some (.bl (isnm d)) := by
  obtain ⟨n, rfl, _⟩ := up hm
  rw [runN_open (d := b_is_name) (by rfl) rfl]
  cases d <;> first | (simp [plain1] at h; done) | skip
  case str x =>
    have hl : x.length ≤ 1000 := of_decide_eq_true h
    have hl2 : x.length ≤ big := by unfold big; omega
    have e : pE ⟨runN PG n, PG.glb, PG.kw⟩ (.lc true (.cmp .inn (.v 1) (.glb "LETTERS")) (.name 1) (.e (.v 0)) .none [1]) [some (.str x), none] = some (.lst (x.cps.toList.map fun c => .bl (sgn c))) := by
      rw [pE_lc (items := x.cps.toList.map fun c => Mi.D.str ⟨#[c]⟩) (fun y => match y with
        | .str z => .bl (strIn z letters)
        | _ => .non) (by simp) (signs_len hl) ?_]
      · rw [List.map_map]
        rfl
      · intro y hy
        obtain ⟨c, _, rfl⟩ := List.mem_map.mp hy
        simp [lcT, g_LETTERS]
    by_cases h1 : (1 : Int) ≤ x.length <;> by_cases h2 : (x.length : Int) ≤ 6
    all_goals simp [b_is_name, isT, len_str hl2, g_MOST_LETTERS, h1, h2, hl2, e, isnm, bi1P, allB_map]
  all_goals simp [b_is_name, isT, isnm]
theorem r_lname {m : Nat} (d : Mi.D) (h : plain1 d = true) (hm : 1 ≤ m) : runN PG m "_law_is_name" [d] = some (.bl (isnm d)) := by
  obtain ⟨n, rfl, _⟩ := up hm
  rw [runN_open (d := b__law_is_name) (by rfl) rfl]
  cases d <;> first | (simp [plain1] at h; done) | skip
  case str x =>
    have hl : x.length ≤ 1000 := of_decide_eq_true h
    have hl2 : x.length ≤ big := by unfold big; omega
    have e : pE ⟨runN PG n, PG.glb, PG.kw⟩ (.lc true (.v 1) (.name 1) (.e (.v 0)) (.some (.cmp .nin (.v 1) (.str "abcdefghijklmnopqrstuvwxyz"))) [1]) [some (.str x), none] = some (.lst ((x.cps.toList.filter fun c => !sgn c).map fun c => .str ⟨#[c]⟩)) := by
      rw [pE_lcf (items := x.cps.toList.map fun c => Mi.D.str ⟨#[c]⟩) (fun y => y) (fun y => match y with
        | .str z => !strIn z letters
        | _ => false) (by simp) (signs_len hl) ?_]
      · rw [List.filter_map, List.map_map]
        rfl
      · intro y hy
        obtain ⟨c, _, rfl⟩ := List.mem_map.mp hy
        cases q : strIn ⟨#[c]⟩ letters
        · have q2 : strIn ⟨#[c]⟩ "abcdefghijklmnopqrstuvwxyz" = false := q
          simp [lcT, q, q2]
        · have q2 : strIn ⟨#[c]⟩ "abcdefghijklmnopqrstuvwxyz" = true := q
          simp [lcT, q, q2]
    by_cases h1 : (1 : Int) ≤ x.length <;> by_cases h2 : (x.length : Int) ≤ 6
    all_goals simp [b__law_is_name, isT, len_str hl2, h1, h2, e, isnm]
    rw [Bool.eq_iff_iff]
    simp
    refine ⟨fun k i hi => k _ (Array.getElem_mem hi), fun k a ha => ?_⟩
    obtain ⟨i, hi, rfl⟩ := Array.getElem_of_mem ha
    exact k i hi
  all_goals simp [b__law_is_name, isT, isnm]
/-! ### the leaves -/
mutual
/-- hereditarily plain -/
def good (m : Nat) : Mi.D → Bool
  | .loc _ | .ro _ | .glo _ | .tab _ _ => false
  | .str x => decide (x.length ≤ 1000)
  | .tup xs => decide (xs.length ≤ m) && goods m xs
  | .lst xs => decide (xs.length ≤ m) && goods m xs
  | _ => true
def goods (m : Nat) : List Mi.D → Bool
  | [] => true
  | x :: xs => good m x && goods m xs
end
theorem goods_mem {m : Nat} : ∀ {xs : List Mi.D}, goods m xs = true → ∀ x ∈ xs, good m x = true
  | y :: ys, h, x, hx => by
    obtain ⟨h1, h2⟩ := ands (show (good m y && goods m ys) = true from h)
    rcases List.mem_cons.mp hx with e | e
    · rw [e]; exact h1
    · exact goods_mem h2 x e
theorem good_plain {m : Nat} (hm : m ≤ 1000) {d : Mi.D} (h : good m d = true) : plain1 d = true := by
  cases d <;> first | rfl | exact h | skip
  all_goals
    rename_i xs
    have k := (ands (show (decide (xs.length ≤ m) && goods m xs) = true from h)).1
    have k2 := of_decide_eq_true k
    exact decide_eq_true (by omega)
def sumO : List (Option Int) → Option Int
  | [] => some 0
  | some i :: r => (sumO r).map (i + ·)
  | none :: _ => none
def LW : Nat → Mi.D → Option Int
  | 0, _ => none
  | L + 1, d => match d with
  | .tup (.str w :: rest) =>
    if w = "is" ∨ w = "least" ∨ w = "most" then (match rest with
      | [a, b] => if isnm a = true ∧ betw b 0 99 = true then some 1 else none
      | _ => none)
    else match rest with
      | [r] => if w = "done" then (if betw r 0 12 = true then some 1 else none)
        else if w = "not" then LW L r
        else if w = "and" ∨ w = "or" then (match r with
          | .tup ps => if 2 ≤ ps.length ∧ ps.length ≤ 4 then sumO (ps.map (LW L)) else none
          | _ => none)
        else none
      | _ => none
  | _ => none
def LL : Nat → Mi.D → Int
  | 0, _ => 1000
  | L + 1, d => match d with
  | .tup (.str w :: rest) =>
    if w = "is" ∨ w = "least" ∨ w = "most" then (match rest with
      | [a, b] => if isnm a = true ∧ betw b 0 99 = true then 1 else 1000
      | _ => 1000)
    else match rest with
      | [r] => if w = "done" then (if betw r 0 12 = true then 1 else 1000)
        else if w = "not" then LL L r
        else if w = "and" ∨ w = "or" then (match r with
          | .tup ps => (ps.map (LL L)).sum + (if 2 ≤ ps.length ∧ ps.length ≤ 4 then 0 else 1000)
          | _ => 1000)
        else 1000
      | _ => 1000
  | _ => 1000
theorem sumO_some : ∀ {xs : List (Option Int)} {n : Int}, sumO xs = some n → ∃ ns : List Int, xs = ns.map some ∧ n = ns.sum
  | [], n, h => ⟨[], rfl, by cases h; rfl⟩
  | some i :: r, n, h => by
    obtain ⟨k, h1, h2⟩ := Option.map_eq_some_iff.mp (show (sumO r).map (i + ·) = some n from h)
    obtain ⟨ns, e1, e2⟩ := sumO_some h1
    exact ⟨i :: ns, by rw [e1]; rfl, by rw [← h2, e2]; rfl⟩
theorem sumO_none : ∀ {xs : List (Option Int)}, sumO xs = none → none ∈ xs
  | some i :: r, h => List.mem_cons_of_mem _ (sumO_none (by
      cases q : sumO r with
      | none => rfl
      | some k => have h : (sumO r).map (i + ·) = none := h; rw [q] at h; cases h))
  | none :: _, _ => List.mem_cons_self
theorem sum_ge : ∀ (ns : List Int), (∀ n ∈ ns, 1 ≤ n) → 0 ≤ ns.sum ∧ ∀ n ∈ ns, n ≤ ns.sum
  | [], _ => ⟨by simp, fun n h => by cases h⟩
  | k :: ns, h => by
    obtain ⟨h1, h2⟩ := sum_ge ns fun n hn => h n (List.mem_cons_of_mem _ hn)
    have hk := h k List.mem_cons_self
    rw [List.sum_cons]
    refine ⟨by omega, fun n hn => ?_⟩
    rcases List.mem_cons.mp hn with e | e
    · omega
    · have := h2 n e
      omega
theorem LW_LL : ∀ (L : Nat) (d : Mi.D), 1 ≤ LL L d ∧ (∀ n, LW L d = some n → LL L d = n) ∧ (LW L d = none → 1000 ≤ LL L d)
  | 0, d => ⟨(by decide : (1 : Int) ≤ 1000), ⟨fun n h => (nomatch h), fun _ => (by decide : (1000 : Int) ≤ 1000)⟩⟩
  | L + 1, d => by
    unfold LW LL
    split
    · rename_i w rest
      split
      · split
        · split
          · simp
          · simp
        · simp
      · split
        · rename_i r
          split
          · split <;> simp
          · split
            · exact LW_LL L r
            · split
              · split
                · rename_i ps
                  have ge : ∀ n ∈ ps.map (LL L), 1 ≤ n := fun n hn => by
                    obtain ⟨p, _, rfl⟩ := List.mem_map.mp hn
                    exact (LW_LL L p).1
                  obtain ⟨g1, g2⟩ := sum_ge _ ge
                  by_cases hl : 2 ≤ ps.length ∧ ps.length ≤ 4
                  · rw [if_pos hl, if_pos hl]
                    have g3 : 1 ≤ (ps.map (LL L)).sum := by
                      cases ps with
                      | nil => simp at hl
                      | cons p ps =>
                        have := g2 (LL L p) (by simp)
                        have := (LW_LL L p).1
                        omega
                    refine ⟨by omega, fun n hn => ?_, fun hn => ?_⟩
                    · obtain ⟨ns, e1, e2⟩ := sumO_some hn
                      have e3 : ps.map (LL L) = ns := by
                        have : ∀ (ps : List Mi.D) (ns : List Int), ps.map (LW L) = ns.map some → ps.map (LL L) = ns := by
                          intro ps
                          induction ps with
                          | nil => intro ns h; cases ns with
                            | nil => rfl
                            | cons _ _ => cases h
                          | cons p ps ih => intro ns h; cases ns with
                            | nil => cases h
                            | cons k ns =>
                              injection h with h1 h2
                              rw [List.map_cons, (LW_LL L p).2.1 k h1, ih ns h2]
                        exact this ps ns e1
                      rw [e3, e2]
                      omega
                    · obtain ⟨p, hp, e⟩ := List.mem_map.mp (sumO_none hn)
                      have := g2 (LL L p) (List.mem_map.mpr ⟨p, hp, rfl⟩)
                      have := (LW_LL L p).2.2 e
                      omega
                  · rw [if_neg hl, if_neg hl]
                    exact ⟨by omega, fun n hn => (nomatch hn), fun _ => by omega⟩
                · simp
              · simp
        · simp
    · simp
def oD : Option Int → Mi.D
  | none => .non
  | some k => .int k
theorem g_WORTHS : PG.glb "WORTHS" = some (.tab ["is", "least", "most"] [.glo "is_just", .glo "is_no_less", .glo "is_no_more"]) := rfl
theorem g_MOST_WORTH : PG.glb "MOST_WORTH" = some (.int 99) := rfl
theorem g_MOST_DONE : PG.glb "MOST_DONE" = some (.int 12) := rfl
theorem g_MOST_LEVELS : PG.glb "MOST_LEVELS" = some (.int 4) := rfl
theorem g_MOST_LEAVES : PG.glb "MOST_LEAVES" = some (.int 12) := rfl
theorem g_MOST_PARTS : PG.glb "MOST_PARTS" = some (.int 4) := rfl
theorem g_DONE : PG.glb "DONE" = some (.str "done") := rfl
theorem g_NOT : PG.glb "NOT" = some (.str "not") := rfl
theorem g_JOINERS : PG.glb "JOINERS" = some (.tup [.str "and", .str "or"]) := rfl
theorem tgP_star1 {x : Mi.D} {xs : List Mi.D} {i k : Nat} {ρ : Ev} (h : xs.length < 10000) : tgP (.star [i] k) (.tup (x :: xs)) ρ = some (sv (sv ρ i (some x)) k (some (.lst xs))) := by
  show (if [i].length ≤ (x :: xs).length ∧ (x :: xs).length ≤ 10000 then _ else none) = _
  rw [if_pos ⟨by simp, by simp; omega⟩]
  rfl
theorem in_join (w : PySem.Str) : cmpP .nin (.str w) (.tup [.str "and", .str "or"]) = some (!(decide (w = "and") || decide (w = "or"))) := by
  have e : cmpP .nin (.str w) (.tup [.str "and", .str "or"]) = some (!((("and" : PySem.Str) == w) || ((("or" : PySem.Str) == w) || false))) := rfl
  rw [e, beq_dec, beq_dec, Bool.or_false]
theorem cast1 (L : Nat) : ((L + 1 : Nat) : Int) - 1 = (L : Int) := by omega
theorem LW_none : ∀ (L : Nat) (d : Mi.D), (∀ w rest, d ≠ .tup (.str w :: rest)) → LW L d = none
  | 0, d, h => rfl
  | L + 1, d, h => by
    unfold LW
    split
    · exact absurd rfl (h _ _)
    · rfl
theorem LW_w {w : PySem.Str} (hw : w = "is" ∨ w = "least" ∨ w = "most") (L : Nat) (rest : List Mi.D) : LW (L + 1) (.tup (.str w :: rest)) = (match rest with
    | [a, b] => if isnm a = true ∧ betw b 0 99 = true then some 1 else none
    | _ => none) := if_pos hw
theorem LW_n {w : PySem.Str} (hw : ¬ (w = "is" ∨ w = "least" ∨ w = "most")) (L : Nat) (rest : List Mi.D) : LW (L + 1) (.tup (.str w :: rest)) = (match rest with
      | [r] => if w = "done" then (if betw r 0 12 = true then some 1 else none)
        else if w = "not" then LW L r
        else if w = "and" ∨ w = "or" then (match r with
          | .tup ps => if 2 ≤ ps.length ∧ ps.length ≤ 4 then sumO (ps.map (LW L)) else none
          | _ => none)
        else none
      | _ => none) := if_neg hw
theorem LW_n1 {w : PySem.Str} (hw : ¬ (w = "is" ∨ w = "least" ∨ w = "most")) (L : Nat) (r : Mi.D) : LW (L + 1) (.tup [.str w, r]) = (if w = "done" then (if betw r 0 12 = true then some 1 else none)
        else if w = "not" then LW L r
        else if w = "and" ∨ w = "or" then (match r with
          | .tup ps => if 2 ≤ ps.length ∧ ps.length ≤ 4 then sumO (ps.map (LW L)) else none
          | _ => none)
        else none) := LW_n hw L [r]
theorem oD_in (xs : List (Option Int)) : cmpP .inn .non (.lst (xs.map oD)) = some (decide (none ∈ xs)) := by
  have e1 : D.pures (xs.map oD) = true := by
    induction xs with
    | nil => rfl
    | cons x xs ih =>
      cases x with
      | none => exact ih
      | some k => exact ih
  have e2 : inD .non (xs.map oD) = decide (none ∈ xs) := by
    induction xs with
    | nil => simp [inD]
    | cons x xs ih =>
      have ih := ih (by
        cases x with
        | none => exact e1
        | some k => exact e1)
      cases x with
      | none => simp [inD, oD, D.eqv]
      | some k => simp [inD, oD, D.eqv, ih]
  show (if (D.non).pure = true ∧ D.pures (xs.map oD) = true ∧ (D.non).depth ≤ 60 then some (inD .non (xs.map oD)) else none) = _
  rw [if_pos ⟨rfl, e1, by decide⟩, e2]
theorem oD_ints : ∀ {xs : List (Option Int)}, none ∉ xs → ∃ n, sumO xs = some n ∧ bi1P .sum (.lst (xs.map oD)) = some (.int n)
  | [], _ => ⟨0, rfl, rfl⟩
  | none :: xs, h => absurd List.mem_cons_self h
  | some i :: xs, h => by
    obtain ⟨n, h1, h2⟩ := oD_ints (xs := xs) fun z => h (List.mem_cons_of_mem _ z)
    refine ⟨i + n, by rw [sumO, h1]; rfl, ?_⟩
    obtain ⟨ns, e1, e2⟩ := Option.map_eq_some_iff.mp (show (intsD (xs.map oD)).map (fun ns => D.int ns.sum) = some (.int n) from h2)
    show (intsD (.int i :: xs.map oD)).map (fun ns => D.int ns.sum) = _
    have e3 : intsD (.int i :: xs.map oD) = (intsD (xs.map oD)).map (i :: ·) := rfl
    rw [e3, e1]
    have e4 : ns.sum = n := by injection e2
    simp [e4]
theorem sumO_in : ∀ {xs : List (Option Int)}, none ∈ xs → sumO xs = none
  | none :: xs, _ => rfl
  | some i :: xs, h => by
    have h2 : none ∈ xs := by simpa using h
    rw [sumO, sumO_in h2]
    rfl
theorem r_lw : ∀ (L : Nat) (d : Mi.D) (m : Nat), good 1000 d = true → L + 3 ≤ m → runN PG m "leaves_within" [d, .int L] = some (oD (LW L d))
  | L, d, m, hd, hm => by
    obtain ⟨n, rfl, hn⟩ := up (k := L + 2) hm
    rw [runN_open (d := b_leaves_within) (by rfl) rfl]
    simp only [b_leaves_within, ss_cons, ss_nil, env0_s, env0_n, env0_0]
    have bad : (∀ w rest, d ≠ .tup (.str w :: rest)) → (pOr ⟨runN PG n, PG.glb, PG.kw⟩ (.cons (.not_ (.isi (.v 0) .tuple)) (.cons (.cmp .eq (.v 0) (.tup .nil)) (.cons (.not_ (.isi (.ix (.v 0) (.int 0)) .str)) (.cons (.cmp .eq (.v 1) (.int 0)) .nil)))) [some d, some (.int L), none, none, none, none] = some (.bl true)) → ∀ sl,
        outP (pSs ⟨runN PG n, PG.glb, PG.kw⟩ (.cons (.ife (.or_ (.cons (.not_ (.isi (.v 0) .tuple)) (.cons (.cmp .eq (.v 0) (.tup .nil)) (.cons (.not_ (.isi (.ix (.v 0) (.int 0)) .str)) (.cons (.cmp .eq (.v 1) (.int 0)) .nil))))) (.cons (.ret .non) .nil) .nil) sl) [some d, some (.int L), none, none, none, none]) = some (oD (LW L d)) := fun h e sl => by
      rw [LW_none L d h]
      exact out_of (st_ifr e rfl)
    cases d with
    | tup xs =>
      cases xs with
      | nil => exact bad (fun _ _ h => (nomatch h)) (by simp [isT]) _
      | cons x rest =>
        obtain ⟨h1, h2⟩ := ands (show (decide ((x :: rest).length ≤ 1000) && goods 1000 (x :: rest)) = true from hd)
        have hl : rest.length < 1000 := by
          have := of_decide_eq_true h1
          simp at this
          omega
        cases x with
        | str w =>
          have star := tgP_star1 (x := .str w) (xs := rest) (i := 3) (k := 4) (ρ := [some (.tup (.str w :: rest)), some (.int (L : Int)), none, none, none, none]) (by omega)
          cases L with
          | zero => exact out_of (st_ifr (by simp [isT]) rfl)
          | succ L =>
            have z : ((L + 1 : Nat) : Int) ≠ 0 := by omega
            refine out_of (st_ifn (by simp [isT, z]; omega) (st_nx (by simp only [pS_asg, pE_v, lk_0, star, Option.map_some]; rfl) ?_))
            have g0 : ∀ y ∈ rest, good 1000 y = true := fun y hy => goods_mem h2 y (List.mem_cons_of_mem _ hy)
            simp only [sv_0, sv_s]
            by_cases hw : w = "is" ∨ w = "least" ∨ w = "most"
            · have c1 : (["is", "least", "most"] : List PySem.Str).contains w = true := by simpa using hw
              rw [LW_w hw]
              rcases rest with _ | ⟨a, _ | ⟨b, _ | ⟨c, rest⟩⟩⟩
              · exact st_ifr (by simp [g_WORTHS, hw]) (by simp [oD])
              · exact st_ifr (by simp [g_WORTHS, hw]) (by simp [oD])
              · have ga := good_plain (by decide) (g0 a (by simp))
                have gb := good_plain (by decide) (g0 b (by simp))
                refine st_ifr (by simp [g_WORTHS, hw]) ?_
                have e2 : ixP (.lst [a, b]) (.int 1) = some b := by simp [ixP, at_, place]
                simp [r_name a ga (show 1 ≤ n by omega), r_between b 0 99 gb (show 1 ≤ n by omega), g_MOST_WORTH, e2]
                cases isnm a <;> cases betw b 0 99 <;> simp [oD]
              · refine st_ifr (by simp [g_WORTHS, hw]) ?_
                have z2 : ¬ ((rest.length : Int) + 1 + 1 + 1 = 2) := by omega
                have z3 : ((rest.length : Int) + 1 + 1 + 1 == 2) = false := beq_eq_false_iff_ne.mpr z2
                simp [z2, z3, oD]
            · have c1 : (["is", "least", "most"] : List PySem.Str).contains w = false := by simpa using hw
              refine st_ifn (by simp [g_WORTHS, hw]) ?_
              rcases rest with _ | ⟨r, _ | ⟨c, rest⟩⟩
              · rw [LW_n hw]
                exact st_ifr (by simp) rfl
              · rw [LW_n1 hw]
                have gr := g0 r (by simp)
                have pr := good_plain (by decide) gr
                refine st_ifn (by simp) ?_
                by_cases h3 : w = "done"
                · refine st_ifr (by simp [g_DONE, h3]) ?_
                  rw [if_pos h3]
                  simp [r_between r 0 12 pr (show 1 ≤ n by omega), g_MOST_DONE]
                  cases betw r 0 12 <;> simp [oD]
                refine st_ifn (by simp [g_DONE, h3]) ?_
                rw [if_neg h3]
                by_cases h4 : w = "not"
                · refine st_ifr (by simp [g_NOT, h4]) ?_
                  rw [if_pos h4]
                  simp only [pE_call, pEs_cons, pE_ix, pE_v, lk_s, lk_0, pE_int, ix_lst0, pE_bin, bin_sub, cast1, pEs_nil, Option.map_some]
                  exact r_lw L r n gr (by omega)
                refine st_ifn (by simp [g_NOT, h4]) ?_
                rw [if_neg h4]
                by_cases h5 : w = "and" ∨ w = "or"
                · rw [if_pos h5]
                  cases r with
                  | tup ps =>
                    obtain ⟨k1, k2⟩ := ands (show (decide (ps.length ≤ 1000) && goods 1000 ps) = true from gr)
                    have k1 := of_decide_eq_true k1
                    by_cases h6 : 2 ≤ ps.length ∧ ps.length ≤ 4
                    · refine st_ifn (by
                        have a1 : (2 : Int) ≤ ps.length := by omega
                        have a2 : (ps.length : Int) ≤ 4 := by omega
                        have a3 : (decide (w = "and") || decide (w = "or")) = true := by simpa using h5
                        simp [g_JOINERS, in_join, a3, isT, g_MOST_PARTS, a1, a2]) ?_
                      simp only [if_pos h6]
                      have e : pE ⟨runN PG n, PG.glb, PG.kw⟩ (.lc true (.call "leaves_within" (.cons (.v 5) (.cons (.bin .sub (.v 1) (.int 1)) .nil))) (.name 5) (.e (.ix (.v 4) (.int 0))) .none [5]) [some (.tup [.str w, .tup ps]), some (.int ((L + 1 : Nat) : Int)), none, some (.str w), some (.lst [.tup ps]), none] = some (.lst ((ps.map (LW L)).map oD)) := by
                        rw [pE_lc (items := ps) (fun y => oD (LW L y)) (by simp) (by unfold big; omega) ?_]
                        · rw [List.map_map]
                          rfl
                        · intro y hy
                          simp [lcT, cast1, r_lw L y n (goods_mem k2 y hy) (by omega)]
                      refine st_asg e ?_
                      simp only [sv_0, sv_s]
                      refine st_retE ?_
                      generalize ps.map (LW L) = zs
                      by_cases h7 : none ∈ zs
                      · rw [sumO_in h7]
                        simp [oD_in, h7, oD]
                      · obtain ⟨k, q1, q2⟩ := oD_ints h7
                        rw [q1]
                        simp [oD_in, h7, oD, q2]
                    · simp only [if_neg h6]
                      refine st_ifr ?_ rfl
                      have a3 : (decide (w = "and") || decide (w = "or")) = true := by simpa using h5
                      by_cases a1 : (2 : Int) ≤ ps.length
                      · have a2 : ¬ (ps.length : Int) ≤ 4 := by omega
                        simp [g_JOINERS, in_join, a3, isT, g_MOST_PARTS, a1, a2]
                      · simp [g_JOINERS, in_join, a3, isT, g_MOST_PARTS, a1]
                  | _ =>
                    have a3 : (decide (w = "and") || decide (w = "or")) = true := by simpa using h5
                    first | (simp [good] at gr; done) | exact st_ifr (by simp [g_JOINERS, in_join, a3, isT]) rfl
                · rw [if_neg h5]
                  have a3 : (decide (w = "and") || decide (w = "or")) = false := by simpa using h5
                  exact st_ifr (by simp [g_JOINERS, in_join, a3]) rfl
              · rw [LW_n hw]
                have z2 : ¬ ((rest.length : Int) + 1 + 1 = 1) := by omega
                have z3 : ((rest.length : Int) + 1 + 1 == 1) = false := beq_eq_false_iff_ne.mpr z2
                exact st_ifr (by simp [z2, z3]) rfl
        | _ => first | (have h3 := goods_mem h2 _ List.mem_cons_self; simp [good] at h3; done) | exact bad (fun _ _ h => (nomatch h)) (by simp [isT]) _
    | _ => first | (simp [good] at hd; done) | exact bad (fun _ _ h => (nomatch h)) (by simp [isT]) _
theorem r_test (d : Mi.D) {m : Nat} (hd : good 1000 d = true) (hm : 8 ≤ m) : runN PG m "is_test" [d] = some (.bl (match LW 4 d with
    | none => false
    | some n => decide (n ≤ 12))) := by
  obtain ⟨n, rfl, hn⟩ := up (k := 7) hm
  rw [runN_open (d := b_is_test) (by rfl) rfl]
  simp only [b_is_test, ss_cons, ss_nil, env0_s, env0_n, env0_0]
  refine out_of (st_asg (d := oD (LW 4 d)) ?_ (st_retE ?_))
  · simp [g_MOST_LEVELS]
    exact r_lw 4 d n hd (by omega)
  · simp only [sv_0, sv_s]
    cases LW 4 d with
    | none => simp [oD, cmpP, isP, isNon]
    | some k => simp [oD, cmpP, isP, isNon, g_MOST_LEAVES, ordP]
/-! ### the law's own leaves -/
theorem LL_none : ∀ (L : Nat) (d : Mi.D), (∀ w rest, d ≠ .tup (.str w :: rest)) → LL L d = 1000
  | 0, d, h => rfl
  | L + 1, d, h => by
    unfold LL
    split
    · exact absurd rfl (h _ _)
    · rfl
theorem LL_w {w : PySem.Str} (hw : w = "is" ∨ w = "least" ∨ w = "most") (L : Nat) (rest : List Mi.D) : LL (L + 1) (.tup (.str w :: rest)) = (match rest with
    | [a, b] => if isnm a = true ∧ betw b 0 99 = true then 1 else 1000
    | _ => 1000) := if_pos hw
theorem LL_n {w : PySem.Str} (hw : ¬ (w = "is" ∨ w = "least" ∨ w = "most")) (L : Nat) (rest : List Mi.D) : LL (L + 1) (.tup (.str w :: rest)) = (match rest with
      | [r] => if w = "done" then (if betw r 0 12 = true then 1 else 1000)
        else if w = "not" then LL L r
        else if w = "and" ∨ w = "or" then (match r with
          | .tup ps => (ps.map (LL L)).sum + (if 2 ≤ ps.length ∧ ps.length ≤ 4 then 0 else 1000)
          | _ => 1000)
        else 1000
      | _ => 1000) := if_neg hw
theorem LL_n1 {w : PySem.Str} (hw : ¬ (w = "is" ∨ w = "least" ∨ w = "most")) (L : Nat) (r : Mi.D) : LL (L + 1) (.tup [.str w, r]) = (if w = "done" then (if betw r 0 12 = true then 1 else 1000)
        else if w = "not" then LL L r
        else if w = "and" ∨ w = "or" then (match r with
          | .tup ps => (ps.map (LL L)).sum + (if 2 ≤ ps.length ∧ ps.length ≤ 4 then 0 else 1000)
          | _ => 1000)
        else 1000) := LL_n hw L [r]
theorem in_worth (w : PySem.Str) : cmpP .inn (.str w) (.tup [.str "is", .str "least", .str "most"]) = some (decide (w = "is" ∨ w = "least" ∨ w = "most")) := by
  have e : cmpP .inn (.str w) (.tup [.str "is", .str "least", .str "most"]) = some ((("is" : PySem.Str) == w) || ((("least" : PySem.Str) == w) || ((("most" : PySem.Str) == w) || false))) := rfl
  rw [e, beq_dec, beq_dec, beq_dec, Bool.or_false]
  congr 1
  rw [Bool.eq_iff_iff]
  simp
theorem r_ll : ∀ (L : Nat) (d : Mi.D) (m : Nat), good 1000 d = true → L + 3 ≤ m → runN PG m "_law_leaves" [d, .int L] = some (.int (LL L d))
  | L, d, m, hd, hm => by
    obtain ⟨n, rfl, hn⟩ := up (k := L + 2) hm
    rw [runN_open (d := b__law_leaves) (by rfl) rfl]
    simp only [b__law_leaves, ss_cons, ss_nil, env0_s, env0_n, env0_0]
    have bad : (∀ w rest, d ≠ .tup (.str w :: rest)) → (pOr ⟨runN PG n, PG.glb, PG.kw⟩ (.cons (.not_ (.isi (.v 0) .tuple)) (.cons (.cmp .eq (.v 0) (.tup .nil)) (.cons (.not_ (.isi (.ix (.v 0) (.int 0)) .str)) (.cons (.cmp .eq (.v 1) (.int 0)) .nil)))) [some d, some (.int L), none] = some (.bl true)) → ∀ sl,
        outP (pSs ⟨runN PG n, PG.glb, PG.kw⟩ (.cons (.ife (.or_ (.cons (.not_ (.isi (.v 0) .tuple)) (.cons (.cmp .eq (.v 0) (.tup .nil)) (.cons (.not_ (.isi (.ix (.v 0) (.int 0)) .str)) (.cons (.cmp .eq (.v 1) (.int 0)) .nil))))) (.cons (.ret (.int 1000)) .nil) .nil) sl) [some d, some (.int L), none]) = some (.int (LL L d)) := fun h e sl => by
      rw [LL_none L d h]
      exact out_of (st_ifr e rfl)
    cases d with
    | tup xs =>
      cases xs with
      | nil => exact bad (fun _ _ h => (nomatch h)) (by simp [isT]) _
      | cons x rest =>
        obtain ⟨h1, h2⟩ := ands (show (decide ((x :: rest).length ≤ 1000) && goods 1000 (x :: rest)) = true from hd)
        cases x with
        | str w =>
          cases L with
          | zero => exact out_of (st_ifr (by simp [isT]) rfl)
          | succ L =>
            have z : ((L + 1 : Nat) : Int) ≠ 0 := by omega
            refine out_of (st_ifn (by simp [isT, z]; omega) ?_)
            have g0 : ∀ y ∈ rest, good 1000 y = true := fun y hy => goods_mem h2 y (List.mem_cons_of_mem _ hy)
            have i1 : ∀ y ys, ixP (.tup (.str w :: y :: ys)) (.int 1) = some y := fun y ys => (ix_at (k := 1) rfl).1
            have i2 : ∀ x y ys, ixP (.tup (.str w :: x :: y :: ys)) (.int 2) = some y := fun x y ys => (ix_at (k := 2) rfl).1
            by_cases hw : w = "is" ∨ w = "least" ∨ w = "most"
            · rw [LL_w hw]
              refine st_ifr (by simp [in_worth, hw]) ?_
              rcases rest with _ | ⟨a, _ | ⟨b, _ | ⟨c, rest⟩⟩⟩
              · simp
              · simp
              · have ga := good_plain (by decide) (g0 a (by simp))
                have gb := good_plain (by decide) (g0 b (by simp))
                simp [i1, i2, r_lname a ga (show 1 ≤ n by omega), r_whole b 0 99 gb (show 1 ≤ n by omega)]
                cases isnm a <;> cases betw b 0 99 <;> simp
              · have z2 : ¬ ((rest.length : Int) + 1 + 1 + 1 + 1 = 3) := by omega
                have z3 : ((rest.length : Int) + 1 + 1 + 1 + 1 == 3) = false := beq_eq_false_iff_ne.mpr z2
                simp [z3]
            · refine st_ifn (by simp [in_worth, hw]) ?_
              by_cases h3 : w = "done"
              · refine st_ifr (by simp [h3]) ?_
                rcases rest with _ | ⟨r, _ | ⟨c, rest⟩⟩
                · rw [LL_n hw]
                  simp
                · rw [LL_n1 hw, if_pos h3]
                  have pr := good_plain (by decide) (g0 r (by simp))
                  simp [i1, r_whole r 0 12 pr (show 1 ≤ n by omega)]
                  cases betw r 0 12 <;> simp
                · rw [LL_n hw]
                  have z2 : ¬ ((rest.length : Int) + 1 + 1 + 1 = 2) := by omega
                  have z3 : ((rest.length : Int) + 1 + 1 + 1 == 2) = false := beq_eq_false_iff_ne.mpr z2
                  simp [z3]
              refine st_ifn (by simp [h3]) ?_
              by_cases h4 : w = "not"
              · refine st_ifr (by simp [h4]) ?_
                rcases rest with _ | ⟨r, _ | ⟨c, rest⟩⟩
                · rw [LL_n hw]
                  simp
                · rw [LL_n1 hw, if_neg h3, if_pos h4]
                  have q := r_ll L r n (g0 r (by simp)) (by omega)
                  simp only [pE_ife, pE_cmp, pE_bi, pEs_cons, pEs_nil, pE_v, lk_0, lk_s, Option.map_some, biP1, len_tup, pE_int, cmp_eq_int, List.length_cons, List.length_nil, pE_call, pE_ix, i1, pE_bin, bin_sub, cast1]
                  exact q
                · rw [LL_n hw]
                  have z2 : ¬ ((rest.length : Int) + 1 + 1 + 1 = 2) := by omega
                  have z3 : ((rest.length : Int) + 1 + 1 + 1 == 2) = false := beq_eq_false_iff_ne.mpr z2
                  simp [z3]
              refine st_ifn (by simp [h4]) ?_
              by_cases h5 : w = "and" ∨ w = "or"
              · have a3 : (decide (w = "and") || decide (w = "or")) = true := by simpa using h5
                rcases rest with _ | ⟨r, _ | ⟨c, rest⟩⟩
                · rw [LL_n hw]
                  exact st_ifr (by simp [in_join, a3]) rfl
                · rw [LL_n1 hw, if_neg h3, if_neg h4, if_pos h5]
                  have gr := g0 r (by simp)
                  cases r with
                  | tup ps =>
                    obtain ⟨k1, k2⟩ := ands (show (decide (ps.length ≤ 1000) && goods 1000 ps) = true from gr)
                    have k1 := of_decide_eq_true k1
                    refine st_ifn (by simp [in_join, a3, i1, isT]) ?_
                    have e : pE ⟨runN PG n, PG.glb, PG.kw⟩ (.lc true (.call "_law_leaves" (.cons (.v 2) (.cons (.bin .sub (.v 1) (.int 1)) .nil))) (.name 2) (.e (.ix (.v 0) (.int 1))) .none [2]) [some (.tup [.str w, .tup ps]), some (.int ((L + 1 : Nat) : Int)), none] = some (.lst (ps.map fun y => .int (LL L y))) := by
                      rw [pE_lc (items := ps) (fun y => .int (LL L y)) (by simp [i1]) (by unfold big; omega) ?_]
                      intro y hy
                      simp [lcT, cast1, r_ll L y n (goods_mem k2 y hy) (by omega)]
                    refine st_retE ?_
                    have e2 : bi1P .sum (.lst (ps.map fun y => Mi.D.int (LL L y))) = some (.int (ps.map (LL L)).sum) := by
                      show (intsD (ps.map fun y => Mi.D.int (LL L y))).map _ = _
                      rw [intsD_map]
                      rfl
                    have m0 : binP .mul (.int 1000) (.int 0) = some (.int 0) := by
                      rw [mul_int (by decide)]
                      rfl
                    have m1 : binP .mul (.int 1000) (.int 1) = some (.int 1000) := by
                      rw [mul_int (by decide)]
                      rfl
                    have f1 : pE ⟨runN PG n, PG.glb, PG.kw⟩ (.bi .sum (.cons (.lc true (.call "_law_leaves" (.cons (.v 2) (.cons (.bin .sub (.v 1) (.int 1)) .nil))) (.name 2) (.e (.ix (.v 0) (.int 1))) .none [2]) .nil)) [some (.tup [.str w, .tup ps]), some (.int ((L + 1 : Nat) : Int)), none] = some (.int (ps.map (LL L)).sum) := by
                      rw [pE_bi, pEs_cons, e]
                      exact e2
                    rw [pE_bin, f1]
                    by_cases a1 : (2 : Int) ≤ ps.length <;> by_cases a2 : (ps.length : Int) ≤ 4
                    · have h6 : 2 ≤ ps.length ∧ ps.length ≤ 4 := by omega
                      simp only [if_pos h6]
                      simp [i1, a1, a2, m0]
                    · have h6 : ¬ (2 ≤ ps.length ∧ ps.length ≤ 4) := by omega
                      simp only [if_neg h6]
                      simp [i1, a1, a2, m1]
                    · have h6 : ¬ (2 ≤ ps.length ∧ ps.length ≤ 4) := by omega
                      simp only [if_neg h6]
                      simp [i1, a1, m1]
                    · have h6 : ¬ (2 ≤ ps.length ∧ ps.length ≤ 4) := by omega
                      simp only [if_neg h6]
                      simp [i1, a1, m1]
                  | _ => first | (simp [good] at gr; done) | exact st_ifr (by simp [in_join, a3, i1, isT]) rfl
                · rw [LL_n hw]
                  have z2 : ¬ ((rest.length : Int) + 1 + 1 + 1 = 2) := by omega
                  have z3 : ((rest.length : Int) + 1 + 1 + 1 == 2) = false := beq_eq_false_iff_ne.mpr z2
                  exact st_ifr (by simp [in_join, a3, z3]) rfl
              · have a3 : (decide (w = "and") || decide (w = "or")) = false := by simpa using h5
                have e : LL (L + 1) (.tup (.str w :: rest)) = 1000 := by
                  rw [LL_n hw]
                  split
                  · rw [if_neg h3, if_neg h4, if_neg h5]
                  · rfl
                rw [e]
                exact st_ifr (by simp [in_join, a3]) rfl
        | _ => first | (have h3 := goods_mem h2 _ List.mem_cons_self; simp [good] at h3; done) | exact bad (fun _ _ h => (nomatch h)) (by simp [isT]) _
    | _ => first | (simp [good] at hd; done) | exact bad (fun _ _ h => (nomatch h)) (by simp [isT]) _
theorem r_right (d : Mi.D) {m : Nat} (hd : good 1000 d = true) (hm : 9 ≤ m) : runN PG m "_law_right" [d] = some (.bl true) := by
  obtain ⟨n, rfl, hn⟩ := up (k := 8) hm
  rw [runN_open (d := b__law_right) (by rfl) rfl]
  simp only [b__law_right, ss_cons, ss_nil, env0_s, env0_n, env0_0]
  have t := r_test d (m := n) hd hn
  have l := r_ll 4 d n hd (by omega)
  obtain ⟨l1, l2, l3⟩ := LW_LL 4 d
  have e : (match LW 4 d with
    | none => false
    | some n => decide (n ≤ 12)) = decide (LL 4 d ≤ 12) := by
    cases q : LW 4 d with
    | none =>
      have := l3 q
      exact (decide_eq_false (by omega)).symm
    | some k => rw [l2 k q]
  rw [e] at t
  have kk : PG.kw "is_test" 0 ["thing"] = [0] := rfl
  have pk : pickL [0] [d] = [d] := rfl
  refine out_of (st_retE ?_)
  have f1 : pE ⟨runN PG n, PG.glb, PG.kw⟩ (.cmp .le (.call "_law_leaves" (.cons (.v 0) (.cons (.int 4) .nil))) (.int 12)) [some d] = some (.bl (decide (LL 4 d ≤ 12))) := by
    have l : runN PG n "_law_leaves" [d, .int 4] = some (.int (LL 4 d)) := l
    simp [l]
  have f2 : pE ⟨runN PG n, PG.glb, PG.kw⟩ (.call "is_test" (.cons (.v 0) .nil)) [some d] = some (.bl (decide (LL 4 d ≤ 12))) := by simp [t]
  have f3 : pE ⟨runN PG n, PG.glb, PG.kw⟩ (.callk "is_test" .nil 0 ["thing"] (.cons (.v 0) .nil)) [some d] = some (.bl (decide (LL 4 d ≤ 12))) := by simp [t, kk, pk]
  rw [pE_cmp, pE_bi, pEs_cons, pE_lst, pEs_cons, f2, pEs_cons, f3, pE_bi, pEs_cons, pE_bin, pE_lst, pEs_cons, f1]
  cases decide (LL 4 d ≤ 12) <;> rfl
end K
/-! ### k12: what is drawn -/
namespace K
open PySem Mi
theorem c_take {m p T : Nat} {many : Int} {st : Store} {Q : QD} (hm : 1 ≤ m) (h0 : 0 < many) (h1 : many < 2 ^ 200) (hp : Pot p (T + 1) st) (q : ∀ r st', 0 ≤ r → r < many → Pot p T st' → Q (.int r) st') : callN PG m "_law_take" [.loc p, .int many] st noX Q := by
  obtain ⟨n, rfl, _⟩ := up (k := 0) hm
  obtain ⟨c, x, t, hs, c0, c1, x0, x1, t0, t1⟩ := hp
  refine callN_open (d := b__law_take) (by rfl) rfl ?_
  simp only [b__law_take, ss_cons, ss_nil, env0_s, env0_n, env0_0, wSs_cons, wS_ife, wE_cmp, wE_ix, wE_v, lk_0, lk_s, wE_int]
  refine ixW_cell 0 hs rfl ?_
  rw [cmpW_gt]
  by_cases hc : 0 < c
  · simp only [decide_eq_true hc, if_true, wSs_cons, wS_asg, wE_bin, wE_ix, wE_v, lk_0, lk_s, wE_int]
    refine ixW_cell 0 hs rfl ?_
    simp only [binW_mod, tgW_name, sv_0, sv_s, wS_setix, wE_bin, wE_ix, wE_v, lk_0, lk_s, wE_int]
    refine ⟨h0, ixW_cell 0 hs rfl ?_⟩
    rw [binW_fdiv]
    refine ⟨divOk_of 200 h0 h1 (by decide), setW_cell 0 hs (by simp) ?_⟩
    simp only [wS_ret, wE_v, lk_s, lk_0]
    refine q _ _ (Int.emod_nonneg _ (by omega)) (Int.emod_lt_of_pos _ h0) ⟨c / many, x, t, up_same, ?_, ?_, x0, x1, t0, by omega⟩
    · exact Int.ediv_nonneg c0 (by omega)
    · exact Int.lt_of_le_of_lt (Int.ediv_le_self _ c0) c1
  · simp only [decide_eq_false hc, Bool.false_eq_true, if_false, wSs_nil, wS_setix, wE_bin, wE_ix, wE_v, lk_0, lk_s, wE_int]
    refine ixW_cell 2 hs rfl ?_
    rw [binW_add]
    refine setW_cell 2 hs (by simp) ?_
    have hs2 : (st.up p (.lst ([Mi.D.int c, .int x, .int t].set 2 (.int (t + 1))))) p = some (.lst [.int c, .int x, .int (t + 1)]) := up_same
    simp only [wSs_cons, wS_asg, wE_bin, wE_ix, wE_v, lk_0, lk_s, wE_int]
    refine ixW_cell 1 hs2 rfl ?_
    refine ixW_cell 2 hs2 rfl ?_
    simp only [binW_mul, binW_add, binW_pow, binW_mod]
    refine ⟨mulOk_of 20 80 (by decide) (by decide) (by omega) (by omega) (by decide), powOk_of 100 (by omega) (by omega) (by decide) (by decide), by decide, ?_⟩
    generalize hone : (x + 104677 * (t + 1)) ^ (3 : Int).toNat % 2305843009213693921 = one
    have o0 : 0 ≤ one := by rw [← hone]; exact Int.emod_nonneg _ (by decide)
    have o1 : one < 2305843009213693921 := by rw [← hone]; exact Int.emod_lt_of_pos _ (by decide)
    simp only [tgW_name, sv_0, sv_s, wE_v, lk_s, lk_0, wE_ix, wE_int]
    refine ixW_cell 1 hs2 rfl ?_
    simp only [binW_mod, binW_add]
    refine ⟨by decide, ixW_cell 2 hs2 rfl ?_⟩
    simp only [binW_mul, binW_add, binW_pow, binW_mod, tgW_name, sv_0, sv_s, wS_ret, wE_bin, wE_v, lk_s, lk_0, wE_int, binW_fdiv]
    have hx : x % 65519 < 65519 := Int.emod_lt_of_pos _ (by decide)
    have hx0 : 0 ≤ x % 65519 := Int.emod_nonneg _ (by decide)
    refine ⟨mulOk_of 20 80 (by decide) (by decide) (by omega) (by omega) (by decide), powOk_of 100 (by omega) (by omega) (by decide) (by decide), by decide, divOk_of 20 (by decide) (by decide) (by decide), h0, ?_⟩
    exact q _ _ (Int.emod_nonneg _ (by omega)) (Int.emod_lt_of_pos _ h0) ⟨c, x, t + 1, hs2, c0, c1, x0, x1, by omega, by omega⟩
theorem goods_all {m : Nat} : ∀ {xs : List Mi.D}, (∀ x ∈ xs, good m x = true) → goods m xs = true
  | [], _ => rfl
  | x :: xs, h => by
    show (good m x && goods m xs) = true
    rw [h x List.mem_cons_self, goods_all fun y hy => h y (List.mem_cons_of_mem _ hy)]
    rfl
/-- a test's data -/
def T4 (d : Mi.D) : Prop := good 4 d = true ∧ ∃ xs, d = .tup xs
theorem c_odd {m p T : Nat} {st : Store} {Q : QD} (hm : 2 ≤ m) (hp : Pot p (T + 2) st) (q : ∀ d st', good 4 d = true → Pot p T st' → Q d st') : callN PG m "_law_odd" [.loc p] st noX Q := by
  obtain ⟨n, rfl, _⟩ := up (k := 1) hm
  refine callN_open (d := b__law_odd) (by rfl) rfl ?_
  simp only [b__law_odd, ss_cons, ss_nil, env0_s, env0_n, env0_0, wSs_cons, wS_asg, wE_call, wEs_cons, wEs_nil, wE_bin, wE_v, lk_0, lk_s, wE_int, binW_pow]
  refine ⟨powOk_of 10 (by decide) (by decide) (by decide) (by decide), ?_⟩
  refine c_take (by omega) (by decide) (by decide) hp fun far st1 f0 f1 hp1 => ?_
  simp only [tgW_name, sv_0, sv_s, wE_lst, wE_tup, wE_dic, wE_neg, wE_bl, wE_non, wE_str, wEs_cons, wEs_nil, wE_v, lk_0, lk_s, wE_int, wE_bin, binW_sub, wS_ret, wE_ix, binW_addL, wE_call]
  refine ⟨by simp [big], ?_⟩
  refine c_take (by omega) (by decide) (by decide) hp1 fun r st2 r0 r1 hp2 => ?_
  refine ixW_lit r0 (by simpa using r1) fun d hd => q d st2 ?_ hp2
  simp at hd
  rcases hd with h | h | h | h | h | h | h | h | h | h | h | h | h | h | h | h | h | h | h | h <;> (subst h; first | rfl | decide)
theorem c_test : ∀ (deep m p T : Nat) (st : Store) (Q : QD), deep + 2 ≤ m → Pot p (T + 7 ^ (deep + 1)) st → (∀ d st', T4 d → Pot p T st' → Q d st') → callN PG m "_law_test" [.loc p, .int deep] st noX Q
  | deep, m, p, T, st, Q, hm, hp, q => by
    obtain ⟨n, rfl, hn⟩ := up (k := deep + 1) hm
    refine callN_open (d := b__law_test) (by rfl) rfl ?_
    have c7 : 7 ≤ 7 ^ (deep + 1) := Nat.le_self_pow (by omega) 7
    simp only [b__law_test, ss_cons, ss_nil, env0_s, env0_n, env0_0, wSs_cons, wS_asg, wE_call, wEs_cons, wEs_nil, wE_v, lk_0, lk_s, wE_int]
    refine c_take (T := T + 7 ^ (deep + 1) - 1) (by omega) (by decide) (by decide) (hp.le (by omega)) fun way st1 w0 w1 hp1 => ?_
    simp only [tgW_name, sv_0, sv_s, wS_ife, wE_or, wOr_cons, wOr_one, wE_cmp, wE_v, lk_0, lk_s, wE_int, cmpW_lt]
    have leaf : ∀ N, wSs (ctxN PG n) (.cons (.ife (.cmp .eq (.call "_law_take" (.cons (.v 0) (.cons (.int 3) .nil))) (.int 0))
            (.cons (.ret (.tup (.cons (.str "done") (.cons (.ix (.lst true (.cons (.int 0) (.cons (.int 1) (.cons (.int 2) (.cons (.int 12) (.cons (.call "_law_take" (.cons (.v 0) (.cons (.int 6) .nil))) .nil)))))) (.call "_law_take" (.cons (.v 0) (.cons (.int 5) .nil)))) .nil)))) .nil) .nil)
          (.cons (.asg (.name 4) (.ix (.lst true (.cons (.str "is") (.cons (.str "least") (.cons (.str "most") .nil)))) (.call "_law_take" (.cons (.v 0) (.cons (.int 3) .nil)))))
          (.cons (.ret (.tup (.cons (.v 4) (.cons (.ix (.lst true (.cons (.str "a") (.cons (.str "a") (.cons (.str "b") (.cons (.str "go") (.cons (.str "zz") .nil)))))) (.call "_law_take" (.cons (.v 0) (.cons (.int 5) .nil)))) (.cons (.ix (.lst true (.cons (.int 0) (.cons (.int 1) (.cons (.int 2) (.cons (.int 50) (.cons (.int 99) .nil)))))) (.call "_law_take" (.cons (.v 0) (.cons (.int 5) .nil)))) .nil))))) .nil)))
          [some (.loc p), some (.int deep), some (.int way), none, none, none] st1 noX ⟨N, Q, fun _ _ => False⟩ := fun N => by
        simp only [wSs_cons, wS_ife, wE_cmp, wE_call, wEs_cons, wEs_nil, wE_v, lk_0, lk_s, wE_int]
        refine c_take (T := T + 3) (by omega) (by decide) (by decide) (hp1.le (by omega)) fun a st2 a0 a1 hp2 => ?_
        refine cmpW_eq _ _ ?_
        by_cases ha : a = 0
        · subst ha
          simp only [beq_self_eq_true, if_true, wSs_cons, wS_ret, wE_tup, wEs_cons, wEs_nil, wE_str, wE_ix, wE_lst, wE_int, wE_call, wE_v, lk_0, lk_s]
          refine c_take (T := T + 2) (by omega) (by decide) (by decide) (hp2.le (by omega)) fun b st3 b0 b1 hp3 => ?_
          refine c_take (T := T + 1) (by omega) (by decide) (by decide) (hp3.le (by omega)) fun i st4 i0 i1 hp4 => ?_
          refine ixW_lit i0 (by simpa using i1) fun d hd => q _ st4 ⟨?_, _, rfl⟩ (hp4.le (by omega))
          simp at hd
          rcases hd with h | h | h | h | h <;> (subst h; rfl)
        · have hb : (a == 0) = false := beq_eq_false_iff_ne.mpr ha
          simp only [hb, Bool.false_eq_true, if_false, wSs_nil, wSs_cons, wS_asg, wS_ret, wE_tup, wEs_cons, wEs_nil, wE_str, wE_ix, wE_lst, wE_int, wE_call, wE_v, lk_0, lk_s]
          refine c_take (T := T + 2) (by omega) (by decide) (by decide) (hp2.le (by omega)) fun i st3 i0 i1 hp3 => ?_
          refine ixW_lit i0 (by simpa using i1) fun w hw => ?_
          simp only [tgW_name, sv_0, sv_s, lk_0, lk_s]
          refine c_take (T := T + 1) (by omega) (by decide) (by decide) (hp3.le (by omega)) fun i2 st4 i20 i21 hp4 => ?_
          refine ixW_lit i20 (by simpa using i21) fun x hx => ?_
          refine c_take (T := T) (by omega) (by decide) (by decide) (hp4.le (by omega)) fun i3 st5 i30 i31 hp5 => ?_
          refine ixW_lit i30 (by simpa using i31) fun y hy => q _ st5 ⟨?_, _, rfl⟩ hp5
          simp at hw hx hy
          have g1 : good 4 w = true := by rcases hw with h | h | h <;> (subst h; first | rfl | decide)
          have g2 : good 4 x = true := by rcases hx with h | h | h | h <;> (subst h; first | rfl | decide)
          have g3 : good 4 y = true := by rcases hy with h | h | h | h | h <;> (subst h; rfl)
          simp [good, goods, g1, g2, g3]
    by_cases h1 : (deep : Int) < 2
    · simp only [decide_eq_true h1, if_true]
      exact leaf _
    simp only [decide_eq_false h1, Bool.false_eq_true, if_false]
    by_cases h2 : way < 4
    · simp only [decide_eq_true h2, if_true]
      exact leaf _
    simp only [decide_eq_false h2, Bool.false_eq_true, if_false, wSs_nil, wSs_cons, wS_ife, wE_cmp, wE_v, lk_0, lk_s, wE_int, cmpW_lt]
    cases deep with
    | zero => exact absurd (by decide) h1
    | succ e =>
      have e7 : 7 ^ (e + 1 + 1) = 7 * 7 ^ (e + 1) := by rw [Nat.pow_succ, Nat.mul_comm]
      have e1 : 7 ≤ 7 ^ (e + 1) := Nat.le_self_pow (by omega) 7
      have ed : ((e + 1 : Nat) : Int) - 1 = (e : Int) := by omega
      by_cases h3 : way < 6
      · simp only [decide_eq_true h3, if_true, wSs_cons, wS_ret, wE_tup, wEs_cons, wEs_nil, wE_str, wE_call, wE_bin, wE_v, lk_0, lk_s, wE_int, binW_sub, ed]
        refine c_test e n p T st1 _ (by omega) (hp1.le (by omega)) fun d st2 hd hp2 => q _ st2 ⟨?_, _, rfl⟩ hp2
        simp [good, goods, hd.1]
        decide
      · simp only [decide_eq_false h3, Bool.false_eq_true, if_false, wSs_nil, wSs_cons, wS_asg, wE_bi, wEs_cons, wEs_nil, wE_lc, wIt_r1, wE_bin, wE_int, wE_call, wE_v, lk_0, lk_s, wC_none, if_true]
        refine c_take (T := T + 1 + 3 * 7 ^ (e + 1)) (by omega) (by decide) (by decide) (hp1.le (by omega)) fun r st2 r0 r1 hp2 => ?_
        simp only [binW_add]
        have hlen : (rngD 0 (2 + r)).length ≤ 3 := by rw [rng_len]; omega
        refine ⟨⟨by omega, by omega⟩, ?_⟩
        refine lcW_inv (fun k st => Pot p (T + 1 + k * 7 ^ (e + 1)) st) T4 (fun _ => trivial) _ _ _ _ (fun x hx k st K hp3 hK => ?_) (hp2.le (Nat.add_le_add_left (Nat.mul_le_mul_right _ hlen) _)) (by unfold big; simp; omega) fun ys st3 hl hy hp3 => ?_
        · simp only [tgW_name, wipe_cons, wipe_nil, sv_0, sv_s, binW_sub, lk_0, lk_s, ed]
          refine c_test e n p (T + 1 + k * 7 ^ (e + 1)) st _ (by omega) (hp3.le ?_) fun d st4 hd hp4 => hK d st4 hd hp4
          rw [Nat.succ_mul]
          omega
        · simp only [List.nil_append, biW_tuple, tgW_name, sv_0, sv_s, wS_ret, wE_tup, wEs_cons, wEs_nil, wE_ix, wE_lst, wE_str, wE_call, wE_v, lk_0, lk_s, wE_int]
          refine c_take (T := T) (by omega) (by decide) (by decide) (hp3.le (by omega)) fun i st4 i0 i1 hp4 => ?_
          refine ixW_lit i0 (by simpa using i1) fun w hw => q _ st4 ⟨?_, _, rfl⟩ hp4
          simp at hw
          have g1 : good 4 w = true := by rcases hw with h | h <;> (subst h; first | rfl | decide)
          have g2 : goods 4 ys = true := goods_all fun y hy' => (hy y hy').1
          have g3 : ys.length ≤ 4 := by rw [hl, rng_len]; omega
          simp [good, goods, g1, g2, g3]
mutual
theorem good_mono {a b : Nat} (h : a ≤ b) : ∀ d : Mi.D, good a d = true → good b d = true
  | .non, _ => rfl
  | .bl _, _ => rfl
  | .int _, _ => rfl
  | .str _, k => k
  | .dct _ _, _ => rfl
  | .tup xs, k => by
    obtain ⟨k1, k2⟩ := ands (show (decide (xs.length ≤ a) && goods a xs) = true from k)
    have k1 := of_decide_eq_true k1
    show (decide (xs.length ≤ b) && goods b xs) = true
    rw [goods_mono h xs k2, decide_eq_true (by omega)]
    rfl
  | .lst xs, k => by
    obtain ⟨k1, k2⟩ := ands (show (decide (xs.length ≤ a) && goods a xs) = true from k)
    have k1 := of_decide_eq_true k1
    show (decide (xs.length ≤ b) && goods b xs) = true
    rw [goods_mono h xs k2, decide_eq_true (by omega)]
    rfl
  | .loc _, k => by cases k
  | .ro _, k => by cases k
  | .glo _, k => by cases k
  | .tab _ _, k => by cases k
theorem goods_mono {a b : Nat} (h : a ≤ b) : ∀ xs : List Mi.D, goods a xs = true → goods b xs = true
  | [], _ => rfl
  | x :: xs, k => by
    obtain ⟨k1, k2⟩ := ands (show (good a x && goods a xs) = true from k)
    show (good b x && goods b xs) = true
    rw [good_mono h x k1, goods_mono h xs k2]
    rfl
end
theorem good_tup {m : Nat} {xs : List Mi.D} (h : xs.length ≤ m) (g : ∀ x ∈ xs, good m x = true) : good m (.tup xs) = true := by
  show (decide (xs.length ≤ m) && goods m xs) = true
  rw [decide_eq_true h, goods_all g]
  rfl
theorem good_lst {m : Nat} {xs : List Mi.D} (h : xs.length ≤ m) (g : ∀ x ∈ xs, good m x = true) : good m (.lst xs) = true := by
  show (decide (xs.length ≤ m) && goods m xs) = true
  rw [decide_eq_true h, goods_all g]
  rfl
theorem c_bent : ∀ (deep m p T : Nat) (held : Mi.D) (st : Store) (Q : QD), deep + 3 ≤ m → good 4 held = true → Pot p (T + (2 * deep + 3)) st → (∀ d st', good 5 d = true → Pot p T st' → Q d st') → callN PG m "_law_bent" [.loc p, held, .int deep] st noX Q
  | deep, m, p, T, held, st, Q, hm, hg, hp, q => by
    obtain ⟨n, rfl, hn⟩ := up (k := deep + 2) hm
    refine callN_open (d := b__law_bent) (by rfl) rfl ?_
    simp only [b__law_bent, ss_cons, ss_nil, env0_s, env0_n, env0_0, wSs_cons, wS_ife, wE_or, wOr_cons, wOr_one, wE_not, wE_isi, wE_v, lk_0, lk_s]
    have odd : ∀ N st1, Pot p (T + 2) st1 → wSs (ctxN PG n) (.cons (.ret (.call "_law_odd" (.cons (.v 0) .nil))) .nil) [some (.loc p), some held, some (.int deep), none, none, none] st1 noX ⟨N, Q, fun _ _ => False⟩ := fun N st1 hp1 => by
      simp only [wSs_cons, wS_ret, wE_call, wEs_cons, wEs_nil, wE_v, lk_0]
      exact c_odd (T := T) (by omega) hp1 fun d st2 hd hp2 => q d st2 (good_mono (by decide) d hd) hp2
    have base : ∀ N, wSs (ctxN PG n) (.cons (.ife (.and_ (.cons (.isi (.v 1) .int) (.cons (.not_ (.isi (.v 1) .bool)) (.cons (.cmp .gt (.call "_law_take" (.cons (.v 0) (.cons (.int 3) .nil))) (.int 0)) .nil))))
        (.cons (.ret (.bin .add (.v 1) (.ix (.lst true (.cons (.int 1) (.cons (.neg (.int 1)) (.cons (.int 13) (.cons (.int 99) .nil))))) (.call "_law_take" (.cons (.v 0) (.cons (.int 4) .nil)))))) .nil) .nil)
        (.cons (.ret (.call "_law_odd" (.cons (.v 0) .nil))) .nil)) [some (.loc p), some held, some (.int deep), none, none, none] st noX ⟨N, Q, fun _ _ => False⟩ := fun N => by
      rw [wSs_cons]
      simp only [wS_ife, wE_and, wAnd_cons, wE_isi, wE_v, lk_s, lk_0]
      cases held with
      | int i =>
        simp only [der, isT, if_true, wAnd_cons, wAnd_one, wE_not, wE_isi, wE_v, lk_s, lk_0, Bool.not_false, wE_cmp, wE_call, wEs_cons, wEs_nil, wE_int]
        refine c_take (T := T + (2 * deep + 2)) (by omega) (by decide) (by decide) hp fun r st1 r0 r1 hp1 => ?_
        rw [cmpW_gt]
        by_cases hr : 0 < r
        · simp only [decide_eq_true hr, if_true, wSs_cons, wS_ret, wE_bin, wE_v, lk_s, lk_0, wE_ix, wE_lst, wEs_cons, wEs_nil, wE_int, wE_neg, wE_call]
          refine c_take (T := T) (by omega) (by decide) (by decide) (hp1.le (by omega)) fun j st2 j0 j1 hp2 => ?_
          refine ixW_lit j0 (by simpa using j1) fun d hd => ?_
          simp only [List.mem_cons, List.not_mem_nil, or_false] at hd
          rcases hd with h | h | h | h <;> (subst h; rw [binW_add]; exact q _ st2 rfl hp2)
        · simp only [decide_eq_false hr, Bool.false_eq_true, if_false, wSs_nil]
          exact odd N st1 (hp1.le (by omega))
      | bl b =>
        simp only [der, isT, if_true, wAnd_cons, wE_not, wE_isi, wE_v, lk_s, lk_0, Bool.not_true, Bool.false_eq_true, if_false, wSs_nil]
        exact odd N st (hp.le (by omega))
      | _ =>
        first
        | (cases hg; done)
        | (simp only [der, isT, Bool.false_eq_true, if_false, wSs_nil]
           exact odd N st (hp.le (by omega)))
    cases held with
    | tup xs =>
      obtain ⟨g1, g2⟩ := ands (show (decide (xs.length ≤ 4) && goods 4 xs) = true from hg)
      have g1 := of_decide_eq_true g1
      have gm := goods_mem g2
      have g5 : ∀ x ∈ xs, good 5 x = true := fun x hx => good_mono (by decide) x (gm x hx)
      simp only [der, isT, Bool.not_true, Bool.false_eq_true, if_false, wE_cmp, wE_v, lk_s, lk_0, wE_tup, wEs_nil, cmpW_eqTN, wE_int]
      by_cases hx : xs = []
      · subst hx
        simp only [List.isEmpty_nil, if_true]
        exact base _
      have hx2 : xs.isEmpty = false := by simpa using hx
      have hx3 : 0 < xs.length := List.length_pos_iff.mpr hx
      simp only [hx2, Bool.false_eq_true, if_false]
      refine cmpW_eq _ _ ?_
      cases deep with
      | zero => exact base _
      | succ e =>
        have z : (((e + 1 : Nat) : Int) == 0) = false := beq_eq_false_iff_ne.mpr (by omega)
        have ed : ((e + 1 : Nat) : Int) - 1 = (e : Int) := by omega
        simp only [z, Bool.false_eq_true, if_false, wSs_nil, wSs_cons, wS_par, wEs_cons, wEs_nil, wE_call, wE_bi, wE_v, lk_s, lk_0, biW_len_tup, wE_int]
        refine c_take (T := T + (2 * (e + 1) + 2)) (by omega) (by omega) (by omega) hp fun at_ st1 a0 a1 hp1 => ?_
        refine c_take (T := T + (2 * (e + 1) + 1)) (by omega) (by decide) (by decide) hp1 fun way st2 w0 w1 hp2 => ?_
        refine ⟨_, rfl, ?_⟩
        simp only [sv_0, sv_s, wS_ife, wE_cmp, wE_v, lk_s, lk_0, wE_int, cmpW_lt]
        by_cases hw : way < 8
        · simp only [decide_eq_true hw, if_true, wSs_cons, wS_ret, wE_bin, wE_sl, wEo_none, wEo_some, wE_v, lk_s, lk_0, slW_tup, wE_tup, wEs_cons, wEs_nil, wE_call, wE_ix, wE_int, binW_sub, ed]
          refine ixW_litT a0 (by omega) fun x hxm => ?_
          refine c_bent e n p (T + (2 * (e + 1) + 1) - (2 * e + 3)) x st2 _ (by omega) (gm x hxm) (hp2.le (by omega)) fun y st3 hy hp3 => ?_
          rw [cut_to a0 (by omega)]
          simp only [binW_addT, binW_add, slW_tup]
          rw [cut_from (by omega)]
          refine ⟨by simp [big]; omega, by simp [big]; omega, q _ st3 (good_tup ?_ ?_) (hp3.le (by omega))⟩
          · simp
            omega
          · intro w hwm
            simp only [List.mem_append, List.mem_cons, List.not_mem_nil, or_false] at hwm
            rcases hwm with (h | h) | h
            · exact g5 w (List.mem_of_mem_take h)
            · rw [h]; exact hy
            · exact g5 w (List.mem_of_mem_drop h)
        · simp only [decide_eq_false hw, Bool.false_eq_true, if_false, wSs_nil, wSs_cons, wS_asg, wE_lst, wEs_cons, wEs_nil, wE_bin, wE_sl, wEo_none, wEo_some, wE_v, lk_s, lk_0, slW_tup, wE_tup, wE_call, wE_int, binW_add, binW_addT]
          rw [cut_to a0 (by omega), cut_from (by omega), cut_from a0, cut_mid a0 (by omega) (by omega)]
          refine ⟨by simp [big]; omega, by simp [big]; omega, by simp [big]; omega, ?_⟩
          refine c_odd (T := T) (by omega) (hp2.le (by omega)) fun d st3 hd hp3 => ?_
          refine ⟨by simp [big]; omega, ?_⟩
          simp only [tgW_name, sv_0, sv_s, wS_ret, wE_ix, wE_bin, wE_v, lk_s, lk_0, wE_lst, wEs_cons, wEs_nil, wE_bi, biW_list, binW_addL, wE_int, binW_sub]
          refine ⟨by simp [big], ixW_lit (by omega) (by simp; omega) fun z hz => q _ st3 ?_ hp3⟩
          simp only [List.mem_append, List.mem_cons, List.not_mem_nil, or_false] at hz
          rcases hz with (h | h | h) | h
          · subst h
            refine good_tup (by simp; omega) fun w hwm => ?_
            rcases List.mem_append.mp hwm with h | h
            · exact g5 w (List.mem_of_mem_take h)
            · exact g5 w (List.mem_of_mem_drop h)
          · subst h
            refine good_tup (by simp; omega) fun w hwm => ?_
            rcases List.mem_append.mp hwm with h | h
            · rcases List.mem_append.mp h with h | h
              · exact g5 w (List.mem_of_mem_take h)
              · exact g5 w (List.mem_of_mem_drop (List.mem_of_mem_take h))
            · exact g5 w (List.mem_of_mem_drop h)
          · subst h
            refine good_tup (by simp; omega) fun w hwm => ?_
            rcases List.mem_append.mp hwm with h | h
            · exact g5 w h
            · rw [List.mem_singleton.mp h]
              exact good_mono (by decide) d hd
          · subst h
            exact good_lst (by omega) g5
    | _ =>
      first
      | (cases hg; done)
      | (simp only [der, isT, Bool.not_false, if_true]
         exact base _)
theorem w_ok : runN PG 39 "_law_written" [] = some (.bl true) := by kernel_rfl
theorem c_pot {m k : Nat} {ns : List Int} {st : Store} {Q : QD} (hm : 1 ≤ m) (hk : k < 12) (q : ∀ p, st p = none → ∀ st', Pot p (2 ^ 69) st' → Q (.loc p) st') : callN PG m "_law_pot" [.ro (ns.map .int), .int k] st noX Q := by
  obtain ⟨n, rfl, _⟩ := up (k := 0) hm
  refine callN_open (d := b__law_pot) (by rfl) rfl ?_
  have rest : ∀ (c : Int) ρ1, 0 ≤ c → c < 2 ^ 2000 → ρ1 = [some (.ro (ns.map .int)), some (.int (k : Int)), some (.int c), none] →
      wSs (ctxN PG n) (.cons (.asg (.name 3) (.bin .mod (.bin .pow (.bin .add (.bin .add (.bin .mod (.v 2) (.int 2147483579)) (.bin .mul (.int 5987) (.v 1))) (.int 1)) (.int 5)) (.int 2305843009213693951)))
        (.cons (.ret (.lst false (.cons (.bin .mul (.v 2) (.bi .int (.cons (.cmp .ge (.v 2) (.bin .pow (.int 10) (.int 18))) .nil))) (.cons (.v 3) (.cons (.int 0) .nil))))) .nil)) ρ1 st noX ⟨fun _ st => Q .non st, Q, fun _ _ => False⟩ := fun c ρ1 c0 c1 hρ => by
    subst hρ
    have m0 : 0 ≤ c % 2147483579 := Int.emod_nonneg _ (by decide)
    have m1 : c % 2147483579 < 2147483579 := Int.emod_lt_of_pos _ (by decide)
    simp only [wSs_cons, wS_asg, wE_bin, wE_v, lk_0, lk_s, wE_int, binW_mod, binW_mul, binW_add, binW_pow]
    refine ⟨by decide, mulOk_of 20 10 (by decide) (by decide) (by omega) (by omega) (by decide), powOk_of 60 (by omega) (by omega) (by decide) (by decide), by decide, ?_⟩
    simp only [tgW_name, sv_0, sv_s, wS_ret, wE_lstN, wEs_cons, wEs_nil, wE_bin, wE_bi, wE_cmp, wE_v, lk_0, lk_s, wE_int, binW_pow, cmpW_ge, biW_int, binW_mul]
    refine ⟨powOk_of 10 (by decide) (by decide) (by decide) (by decide), ?_, fun p hp => q p hp _ ⟨_, _, 0, up_same, ?_, ?_, Int.emod_nonneg _ (by decide), ?_, by decide, by decide⟩⟩
    · exact mulOk_of 2000 2 c0 c1 (by split <;> decide) (by split <;> decide) (by decide)
    · exact Int.mul_nonneg c0 (by split <;> decide)
    · split
      · rw [Int.mul_one]
        exact Int.lt_trans c1 (Int.pow_lt_pow_of_lt (by decide) (by decide))
      · rw [Int.mul_zero]
        exact Int.pow_pos (by decide)
    · exact Int.lt_trans (Int.emod_lt_of_pos _ (by decide)) (by decide)
  simp only [b__law_pot, ss_cons, ss_nil, env0_s, env0_n, env0_0]
  rw [wSs_cons]
  simp only [wS_asg, wE_int, tgW_name, sv_0, sv_s]
  rw [wSs_cons]
  simp only [wS_ife, wE_cmp, wE_bi, wEs_cons, wEs_nil, wE_v, lk_0, lk_s, biW_len_ro, cmpW_lt]
  by_cases h : (k : Int) < (ns.map Mi.D.int).length
  · simp only [decide_eq_true h, if_true]
    rw [wSs_cons]
    simp only [wS_asg, wE_bin, wE_bi, wEs_cons, wEs_nil, wE_ix, wE_v, lk_0, lk_s, wE_int]
    refine ixW_ro (by omega) h fun d hd => ?_
    obtain ⟨i, _, rfl⟩ := List.mem_map.mp hd
    simp only [biW_abs, binW_pow, binW_mod]
    have t0 : (0 : Int) < ((10 : Int) ^ (60 : Int).toNat) ^ (10 : Int).toNat := by decide
    refine ⟨powOk_of 10 (by decide) (by decide) (by decide) (by decide), powOk_of 200 (by decide) (by decide) (by decide) (by decide), t0, ?_⟩
    simp only [tgW_name, sv_0, sv_s, wSs_nil]
    exact rest _ _ (Int.emod_nonneg _ (Int.ne_of_gt t0)) (Int.lt_trans (Int.emod_lt_of_pos _ t0) (by decide)) rfl
  · simp only [decide_eq_false h, Bool.false_eq_true, if_false, wSs_nil]
    exact rest 0 _ (by decide) (by decide) rfl
def deep : Nat := 40
theorem law_ok (ns : List Int) (hl : ns.length ≤ 63) : callN PG deep "law" [.ro (ns.map .int)] (fun _ => none) noX (fun d _ => d = .bl true) := by
  refine callN_open (n := 39) (d := b_law) (by rfl) rfl ?_
  simp only [b_law, ss_cons, ss_nil, env0_s, env0_n, env0_0]
  rw [wSs_cons]
  simp only [wS_for, wIt_r1, wE_bi, wEs_cons, wEs_nil, wE_int, wE_v, lk_0, lk_s, biW_len_ro, biW_min]
  have e1 : ∃ a : Int, 0 ≤ a ∧ a ≤ 12 ∧ (if decide (((ns.map Mi.D.int).length : Int) < 12) = true then Mi.D.int ((ns.map Mi.D.int).length : Int) else .int 12) = .int a := by
    by_cases h : ((ns.map Mi.D.int).length : Int) < 12
    · exact ⟨((ns.map Mi.D.int).length : Int), by omega, by omega, by rw [decide_eq_true h, if_pos rfl]⟩
    · exact ⟨12, by decide, by decide, by rw [decide_eq_false h, if_neg (by decide)]⟩
  obtain ⟨a, a0, a1, e1⟩ := e1
  rw [e1, biW_max]
  have e2 : ∃ b : Int, 0 ≤ b ∧ b ≤ 12 ∧ (if decide (a > 1) = true then Mi.D.int a else .int 1) = .int b := by
    by_cases h : a > 1
    · exact ⟨a, a0, a1, by rw [decide_eq_true h, if_pos rfl]⟩
    · exact ⟨1, by decide, by decide, by rw [decide_eq_false h, if_neg (by decide)]⟩
  obtain ⟨b, b0, b1, e2⟩ := e2
  rw [e2]
  refine ⟨⟨by omega, by omega⟩, ?_⟩
  refine forW_inv (fun _ ρ _ => ∃ x1 x2 x3 x4 x5 x6 x7, ρ = [some (.ro (ns.map .int)), x1, x2, x3, x4, x5, x6, x7]) (fun _ => trivial) _ _ _ _ ?_ ⟨_, _, _, _, _, _, _, rfl⟩ ?_
  · rintro x hx _ ρ st R' ⟨x1, x2, x3, x4, x5, x6, x7, rfl⟩ hnx hrt _
    obtain ⟨k, hk, rfl⟩ := rng_mem hx
    simp only [tgW_name, sv_0, sv_s]
    rw [wSs_cons]
    simp only [wS_asg, wE_call, wEs_cons, wEs_nil, wE_v, lk_0, lk_s]
    refine c_pot (by decide) (by omega) fun p _ st1 hp => ?_
    simp only [tgW_name, sv_0, sv_s]
    rw [wSs_cons]
    simp only [wS_for, wIt_r1, wE_int]
    refine ⟨⟨by decide, by decide⟩, ?_⟩
    refine forW_inv (fun j ρ st => (∃ x1 x3 x4 x5 x6 x7, ρ = [some (.ro (ns.map .int)), x1, some (.loc p), x3, x4, x5, x6, x7]) ∧ Pot p (j * 100000) st) (fun _ => trivial) _ _ _ _ ?_ ⟨⟨_, _, _, _, _, _, rfl⟩, hp.le (by rw [rng_len]; decide)⟩ ?_
    · rintro y hy j ρ st2 R2 ⟨⟨x1, x3, x4, x5, x6, x7, rfl⟩, hp2⟩ hnx2 hrt2 _
      simp only [tgW_name, sv_0, sv_s]
      rw [wSs_cons]
      simp only [wS_asg, wE_call, wEs_cons, wEs_nil, wE_bin, wE_v, lk_0, lk_s, wE_int]
      refine c_take (T := j * 100000 + 99999) (by decide) (by decide) (by decide) (hp2.le (by omega)) fun r st3 r0 r1 hp3 => ?_
      rw [binW_add]
      have er : (1 : Int) + r = (((1 + r).toNat : Nat) : Int) := by omega
      rw [er]
      have hr : (1 + r).toNat ≤ 4 := by omega
      generalize (1 + r).toNat = dp at hr
      have h7 : 7 ^ (dp + 1) ≤ 7 ^ 5 := Nat.pow_le_pow_right (by decide) (by omega)
      refine c_test dp _ p (j * 100000 + 80000) st3 _ (by omega) (hp3.le (by omega)) fun test st4 ht hp4 => ?_
      obtain ⟨gt, ts, rfl⟩ := ht
      have gt5 := good_mono (by decide : 4 ≤ 5) _ gt
      simp only [tgW_name, sv_0, sv_s]
      rw [wSs_cons]
      simp only [wS_asg, wE_lst, wE_tup, wE_bi, wE_str, wEs_cons, wEs_nil, wE_v, lk_0, lk_s, biW_list, tgW_name, sv_0, sv_s]
      rw [wSs_cons]
      simp only [wS_for, wIt_e, wE_bin, wE_lc, wIt_r1, wE_int, wE_v, lk_0, lk_s]
      refine ⟨⟨by decide, by decide⟩, ?_⟩
      refine lcW_inv (fun i st => Pot p (j * 100000 + i * 14) st) (fun d => good 5 d = true) (fun _ => trivial) _ _ _ _ (fun z hz i st5 K hp5 hK => ?_) (hp4.le (by rw [rng_len]; omega)) (by rw [rng_len]; decide) fun ys st5 hl5 hys hp5 => ?_
      · simp only [tgW_name, wipe_cons, wipe_nil, sv_0, sv_s, wC_none, if_true, wE_call, wEs_cons, wEs_nil, wE_bin, wE_v, lk_0, lk_s, wE_int]
        refine c_take (T := j * 100000 + i * 14 + 13) (by decide) (by decide) (by decide) (hp5.le (by omega)) fun u st6 u0 u1 hp6 => ?_
        rw [binW_add]
        have eu : (1 : Int) + u = (((1 + u).toNat : Nat) : Int) := by omega
        rw [eu]
        have hu : (1 + u).toNat ≤ 5 := by omega
        generalize (1 + u).toNat = dq at hu
        exact c_bent dq _ p (j * 100000 + i * 14) _ st6 _ (by omega) gt (hp6.le (by omega)) fun d st7 hd hp7 => hK d st7 hd hp7
      · rw [binW_addL]
        have hl6 : ys.length = 12 := by rw [hl5, rng_len]; rfl
        refine ⟨by simp [big, hl6], _, rfl, ?_⟩
        refine forW_inv (fun _ ρ st => (∃ x1 x3 x4 x5 x6 x7, ρ = [some (.ro (ns.map .int)), x1, some (.loc p), x3, x4, x5, x6, x7]) ∧ Pot p (j * 100000) st) (fun _ _ e => (nomatch e)) _ _ _ _ ?_ ⟨⟨_, _, _, _, _, _, rfl⟩, hp5.le (by omega)⟩ ?_
        · rintro held hheld _ ρ st6 R3 ⟨⟨x1, x3, x4, x5, x6, x7, rfl⟩, hp6⟩ hnx3 hrt3 _
          have gh : good 5 held = true := by
            rcases List.mem_append.mp hheld with h | h
            · have g5 := goods_mem (ands (show (decide (ts.length ≤ 4) && goods 4 ts) = true from gt)).2
              have l5 := of_decide_eq_true (ands (show (decide (ts.length ≤ 4) && goods 4 ts) = true from gt)).1
              simp only [List.mem_cons, List.not_mem_nil, or_false] at h
              rcases h with h | h | h | h | h
              · rw [h]; exact gt5
              · rw [h]; exact good_tup (by simp) (by simp [gt5]; decide)
              · rw [h]; exact good_tup (by simp) (by simp [gt5, good_tup (m := 5) (xs := [.tup ts, .tup ts]) (by simp) (by simp [gt5])]; decide)
              · rw [h]; exact good_tup (by simp) (by simp [gt5])
              · rw [h]; exact good_lst (by omega) fun x hx => good_mono (by decide) x (g5 x hx)
            · exact hys held h
          simp only [tgW_name, sv_0, sv_s]
          rw [wSs_cons]
          simp only [wS_ife, wE_not, wE_call, wEs_cons, wEs_nil, wE_v, lk_0, lk_s]
          refine call_pure (r_right held (good_mono (by decide) held gh) (by decide)) ?_
          simp only [Bool.not_true, Bool.false_eq_true, if_false, wSs_nil]
          exact hnx3 _ _ ⟨⟨_, _, _, _, _, _, rfl⟩, hp6⟩
        · rintro ρ st6 ⟨⟨x1, x3, x4, x5, x6, x7, rfl⟩, hp6⟩
          exact hnx2 _ _ ⟨⟨_, _, _, _, _, _, rfl⟩, hp6⟩
    · rintro ρ st2 ⟨⟨x1, x3, x4, x5, x6, x7, rfl⟩, _⟩
      exact hnx _ _ ⟨_, _, _, _, _, _, _, rfl⟩
  · rintro ρ st ⟨x1, x2, x3, x4, x5, x6, x7, rfl⟩
    simp only [wSs_cons, wS_ret, wE_call, wEs_nil]
    exact call_pure w_ok rfl
end K
open PySem PySem.W PySem.Calls PyProof.Rows
theorem PySem.Challenge.cw_mighthave_k12_what_is_a_test_holds : PySem.Challenge.rw_mighthave_k12_what_is_a_test.Holds := by
  w_on; o_law
  refine HandSHeadRun.head_any (r := OpenLaw.row PySem.Challenge.rw_mighthave_k12_what_is_a_test) (q := view (OpenLaw.row PySem.Challenge.rw_mighthave_k12_what_is_a_test).prog [31]) (H := K.hk) (ob := K.ob) (M := 60000) (loose := K.names) (d := HandSHeadRun.topDef (OpenLaw.row PySem.Challenge.rw_mighthave_k12_what_is_a_test).prog 31) (kwd := []) K.ob_eq
    (by kernel_rfl) (fun s => by kernel_rfl) K.run (by kernel_rfl) (by kernel_rfl) (by kernel_rfl) (by rfl) (by first | assumption | decide +kernel) (by decide +kernel) ⟨rfl, rfl, rfl, rfl, rfl, by decide +kernel⟩ ?hw ?hc
  case hw => w_witness2
  case hc =>
    have e : (HandSHeadRun.topDef (OpenLaw.row PySem.Challenge.rw_mighthave_k12_what_is_a_test).prog 31).name = ("law" : PySem.Str) := by kernel_rfl
    refine Mi.walk_mini (l := PySem.Challenge.rw_mighthave_k12_what_is_a_test) (n := 63) (k := K.deep) (x := "script") K.PG rfl (by decide) (by kernel_rfl) ⟨rfl, by decide, by decide⟩ K.b_law (by rw [e]; kernel_rfl) ?F (fun ns hl => by rw [e]; exact K.law_ok ns hl)
    intro w mg h Y N
    obtain ⟨F, X, c⟩ := Y
    obtain ⟨fd, k, hb⟩ := K.k_law X N c.t.d
    refine ⟨F, Mi.gvOf F w, X, Mi.gok_of X N rfl c.t c.more (fun f d hd => K.all_ok X N c.t.d _ (Mi.mem_look hd)), He.ga F "law", fd, by rw [e]; exact k, hb⟩

