import PyProof.Rows.All
import Wide.All
import OpenK.AllK
import Wide.FinOn
import HandS.ForMost
import HandS.Wide
import HandS.Flow
import HandS.Defaults
import HandS.Head0
import HandS.Head1
import HandS.Head2
import HandS.HeadEnd
import HandS.HeadHook1
import HandS.HeadHook2
import HandS.StrMore
import HandS.Replace
import HandS.More
import HandS.TupLe
import HandS.IsInst
import HandS.ListEq
import PyProof.EqAt
import PyProof.EqKinds
import PyProof.TupleCall
import PyProof.ZipIter
import PyProof.ListNew
import PyProof.CollectWalk
import KE.KDictZip
import HandS.DictTup
import HandS.HeadHook4
import PySem.Challenge.RW_skeinwood_k85_whole_long_house

section
set_option Elab.async false
set_option linter.all false
set_option maxRecDepth 100000
/-! The abstract heap and the readings (no model in sight). -/
namespace SW
open PySem L2

/-! ### the abstract heap -/
/-- what a shelf keeps of a piece -/
structure PRec where
  pc : Sum Str (Nat × Nat)
  sg : Nat
  en : Nat
  lv : Nat
  ht : Nat
  fi : Nat
  la : Nat
abbrev Sh := List PRec
inductive O where
  | lst (xs : List V)
  | tup (xs : List V)
  | dK (kvs : List (Key × V))
  | dT (kvs : List (List Key × V))
  | ins (c : Nat) (fs : List (Nat × V))
  | shf (S : Sh)
abbrev G := Addr → Option O
def gu (g : G) (a : Addr) (o : O) : G := fun b => if b = a then some o else g b
def Sub (g' g : G) : Prop := ∀ a o, g' a = some o → g a = some o
abbrev VG := V → G → Prop
abbrev XG := Nat → G → Prop
abbrev SpG := List V → G → VG → XG → Prop
structure Cal where
  kl : Addr → List V → Prop
  fn : Nat → SpG
  er : Nat → St → G → Prop
abbrev T := Cal → St → G → VG → Prop
abbrev TB := Cal → St → G → (Bool → G → Prop) → Prop
abbrev TLs := Cal → St → G → (List V → G → Prop) → Prop
structure En where
  nx : St → G → Prop
  rt : VG
  bk : St → G → Prop := fun _ _ => False
  ct : St → G → Prop := fun _ _ => False
abbrev TSt := Cal → En → St → G → Prop
/-- a target -/
abbrev TTg := Cal → V → St → G → (St → G → Prop) → Prop

def putN (f : Nat) (v : V) : List (Nat × V) → List (Nat × V)
  | [] => [(f, v)]
  | (h, x) :: r => if h = f then (h, v) :: r else (h, x) :: putN f v r

/-- the attributes of the program's classes (0 Shelf, 1 Front, 2 Reader, 3 Finder, 4 House, 5 Desk), by numbers -/
def atOf : Nat → List Nat
  | 0 => [0, 1, 2, 3, 4, 5, 6, 7]
  | 1 => [8, 9, 10]
  | 2 => [11, 12, 13]
  | 3 => [11, 14, 15, 16]
  | 4 => [17, 15, 18, 19]
  | 5 => [20]
  | _ => []
def anL : List Str := ["pieces", "numbers", "told_signs", "told_ends", "told_leaves", "told_heights", "firsts", "lasts", "shelf_here", "rest", "waiting", "wood", "signs_left", "pieces_left", "word", "known", "ends_known", "own", "past", "undone", "home"]
def anOf (i : Nat) : Str := anL.getD i ""

/-- a list that may be read -/
def Ls (kl : Addr → List V → Prop) (g : G) (a : Addr) (xs : List V) : Prop := g a = some (.lst xs) ∨ kl a xs

mutual
inductive Dg (kl : Addr → List V → Prop) (g : G) : V → PyData → Prop
  | non : Dg kl g .non .none
  | bl (b : Bool) : Dg kl g (.bl b) (.bool b)
  | int (i : Int) : Dg kl g (.int i) (.int i)
  | str (x : Str) : Dg kl g (.str x) (.str x)
  | lst {a : Addr} {xs : List V} {ds : List PyData} : Ls kl g a xs → DgAll kl g xs ds → Dg kl g (.ref a) (.list ds)
  | tup {a : Addr} {xs : List V} {ds : List PyData} : g a = some (.tup xs) → DgAll kl g xs ds → Dg kl g (.ref a) (.tuple ds)
inductive DgAll (kl : Addr → List V → Prop) (g : G) : List V → List PyData → Prop
  | nil : DgAll kl g [] []
  | cons {v : V} {vs : List V} {d : PyData} {ds : List PyData} : Dg kl g v d → DgAll kl g vs ds → DgAll kl g (v :: vs) (d :: ds)
end

/-! ### operations on values -/
def binV (kl : Addr → List V → Prop) (op : Operator) (x y : V) (g : G) (Q : VG) : Prop :=
  match op, x, y with
  | .Add, .int i, .int j => Q (.int (i + j)) g
  | .Add, .str a, .str b => a.length + b.length ≤ sizeLine ∧ Q (.str (a ++ b)) g
  | .Add, .ref a, .ref b => ∃ xs ys, Ls kl g a xs ∧ Ls kl g b ys ∧ xs.length + ys.length ≤ sizeLine ∧ ∀ p, g p = none → Q (.ref p) (gu g p (.lst (xs ++ ys)))
  | .Sub, .int i, .int j => Q (.int (i - j)) g
  | .Mult, .int i, .int j => CMulW i j ∧ Q (.int (i * j)) g
  | .Mult, .str a, .int k => -(2 ^ 63) ≤ k ∧ k < 2 ^ 63 ∧ a.length * k.toNat ≤ sizeLine ∧ Q (.str ⟨(List.replicate k.toNat a.cps.toList).flatten.toArray⟩) g
  | .Mult, .ref a, .int k => ∃ xs, g a = some (.lst xs) ∧ -(2 ^ 63) ≤ k ∧ k < 2 ^ 63 ∧ xs.length * k.toNat ≤ sizeLine ∧ ∀ p, g p = none → Q (.ref p) (gu g p (.lst (List.replicate k.toNat xs).flatten))
  | .FloorDiv, .int i, .int j => CDivW i j ∧ Q (.int (i / j)) g
  | .Mod, .int i, .int j => 0 < j ∧ Q (.int (i % j)) g
  | .Pow, .int i, .int j => CPow i j ∧ Q (.int (i ^ j.toNat)) g
  | _, _, _ => False

/-- the answer of == on scalars -/
def eqV' (kl : Addr → List V → Prop) (x y : V) (g : G) (Q : Bool → G → Prop) : Prop :=
  match x, y with
  | .ref _, .ref _ => ∃ d e, Dg kl g x d ∧ Dg kl g y e ∧ SeqAt.shaped d = true ∧ SeqAt.shaped e = true ∧ Q (PyData.eqv d e) g
  | _, _ => scal x y = true ∧ Q (decide (x = y)) g

def keyOf : V → Option Key
  | .int i => some (.inl i)
  | .str x => some (.inr x)
  | _ => none

/-- what a dict holds at a key -/
def dGet (g : G) (a : Addr) (y : V) (r : Option V) : Prop :=
  (∃ kvs k, g a = some (.dK kvs) ∧ y = kV k ∧ r = valV kvs k) ∨ ∃ kvs k b, g a = some (.dT kvs) ∧ y = .ref b ∧ g b = some (.tup (k.map kV)) ∧ r = valV kvs k
def dPut (g : G) (a : Addr) (y v : V) (g' : G) : Prop :=
  (∃ kvs k, g a = some (.dK kvs) ∧ y = kV k ∧ kvs.length < sizeLine ∧ g' = gu g a (.dK (putK kvs k v))) ∨
  ∃ kvs k b, g a = some (.dT kvs) ∧ y = .ref b ∧ g b = some (.tup (k.map kV)) ∧ kvs.length < sizeLine ∧ g' = gu g a (.dT (putK kvs k v))

def inV (kl : Addr → List V → Prop) (x y : V) (g : G) (Q : Bool → G → Prop) : Prop :=
  match y with
  | .str z => ∃ c : Nat, x = .str ⟨#[c]⟩ ∧ Q (decide (c ∈ z.cps.toList)) g
  | .ref a => (∃ o, dGet g a x o ∧ Q o.isSome g) ∨ ∃ xs, Ls kl g a xs ∧ flatV x = true ∧ xs.all flatV = true ∧ Q (L2.inV x xs) g
  | _ => False

def cmpV (kl : Addr → List V → Prop) (op : CmpOp) (x y : V) (g : G) (Q : Bool → G → Prop) : Prop :=
  match op with
  | .Eq => eqV' kl x y g Q ∨ ∃ a b xs ys, x = .ref a ∧ y = .ref b ∧ g a = some (.lst xs) ∧ g b = some (.lst ys) ∧ xs.length ≠ ys.length ∧ Q false g
  | .NotEq => eqV' kl x y g fun b g' => Q (!b) g'
  | .Lt => ∃ i j, x = .int i ∧ y = .int j ∧ Q (decide (i < j)) g
  | .LtE => match x, y with
    | .int i, .int j => Q (decide (i ≤ j)) g
    | .str i, .str j => Q (!decide (j.cps.toList < i.cps.toList)) g
    | _, _ => False
  | .Gt => ∃ i j, x = .int i ∧ y = .int j ∧ Q (decide (j < i)) g
  | .GtE => ∃ i j, x = .int i ∧ y = .int j ∧ Q (decide (j ≤ i)) g
  | .In => inV kl x y g Q
  | .NotIn => inV kl x y g fun b g' => Q (!b) g'
  | .Is => (y = .non ∧ Q (decide (x = .non)) g) ∨ ∃ a b, x = .bl a ∧ y = .bl b ∧ Q (decide (a = b)) g
  | .IsNot => (y = .non ∧ Q (!decide (x = .non)) g) ∨ ∃ a b, x = .bl a ∧ y = .bl b ∧ Q (!decide (a = b)) g

/-- o[i] -/
def ixV (kl : Addr → List V → Prop) (x y : V) (g : G) (Q : VG) : Prop :=
  match x with
  | .str z => ∃ i c, y = .int i ∧ z.length ≤ sizeLine ∧ atI z.cps.toList i = some c ∧ Q (.str ⟨#[c]⟩) g
  | .ref a => (∃ xs i v, y = .int i ∧ (Ls kl g a xs ∨ g a = some (.tup xs)) ∧ atI xs i = some v ∧ Q v g) ∨ ∃ v, dGet g a y (some v) ∧ Q v g
  | _ => False
/-- o[i:j] -/
def slV (kl : Addr → List V → Prop) (x : V) (lo hi : Option Int) (g : G) (Q : VG) : Prop :=
  match x with
  | .str z => z.length ≤ sizeLine ∧ Q (.str (cutS z lo hi)) g
  | .ref a => ∃ xs, Ls kl g a xs ∧ ∀ p, g p = none → Q (.ref p) (gu g p (.lst (cutV xs lo hi)))
  | _ => False

/-- the truth of a value -/
def truV (kl : Addr → List V → Prop) (x : V) (g : G) (Q : Bool → G → Prop) : Prop :=
  match x with
  | .bl b => Q b g
  | .str y => y.length ≤ sizeLine ∧ Q ((y.length : Int) != 0) g
  | _ => False

/-- built-in functions -/
inductive Bi where
  | len | max | min | abs | sum | all | int | str | list | dict | isint | isstr | isbool | istuple | islist | sorted
  deriving DecidableEq
def biV (kl : Addr → List V → Prop) (f : Bi) (xs : List V) (g : G) (Q : VG) : Prop :=
  match f with
  | .len => match xs with
    | [.str y] => y.length ≤ sizeLine ∧ Q (.int y.length) g
    | [.ref a] => (∃ ys, (Ls kl g a ys ∨ g a = some (.tup ys)) ∧ Q (.int ys.length) g) ∨ ∃ kvs, g a = some (.dK kvs) ∧ Q (.int kvs.length) g
    | _ => False
  | .max => match xs with
    | [.int i, .int j] => Q (.int (if j > i then j else i)) g
    | [.ref a] => ∃ ns : List Int, Ls kl g a (ns.map V.int) ∧ 0 < ns.length ∧ ∀ m, m ∈ ns → (∀ y, y ∈ ns → y ≤ m) → Q (.int m) g
    | _ => False
  | .min => match xs with
    | [.int i, .int j] => Q (.int (if j < i then j else i)) g
    | [.ref a] => ∃ ns : List Int, Ls kl g a (ns.map V.int) ∧ 0 < ns.length ∧ ∀ m, m ∈ ns → (∀ y, y ∈ ns → m ≤ y) → Q (.int m) g
    | _ => False
  | .abs => match xs with
    | [.int i] => Q (.int (if i < 0 then -i else i)) g
    | _ => False
  | .sum => ∃ (a : Addr) (ns : List Int), xs = [.ref a] ∧ Ls kl g a (ns.map V.int) ∧ Q (.int ns.sum) g
  | .all => ∃ (a : Addr) (bs : List Bool), xs = [.ref a] ∧ Ls kl g a (bs.map V.bl) ∧ Q (.bl (bs.all id)) g
  | .int => match xs with
    | [.bl k] => Q (.int (if k then 1 else 0)) g
    | [.str a] => ∃ n, PySem.intText? a = some n ∧ a.length ≤ 640 ∧ Q (.int n) g
    | _ => False
  | .str => match xs with
    | [.int i] => i.natAbs.log2 < 1920 ∧ Q (.str (toString i)) g
    | _ => False
  | .list => ∃ a ys, xs = [.ref a] ∧ (Ls kl g a ys ∨ g a = some (.tup ys)) ∧ ∀ p, g p = none → Q (.ref p) (gu g p (.lst ys))
  | .dict => ∃ a kvs, xs = [.ref a] ∧ g a = some (.dK kvs) ∧ ∀ p, g p = none → Q (.ref p) (gu g p (.dK kvs))
  | .isint => match xs with
    | [.int _] | [.bl _] => Q (.bl true) g
    | [.str _] | [.non] => Q (.bl false) g
    | _ => False
  | .isbool => match xs with
    | [.bl _] => Q (.bl true) g
    | [.int _] | [.str _] | [.non] => Q (.bl false) g
    | _ => False
  | .isstr => match xs with
    | [.str _] => Q (.bl true) g
    | [.int _] | [.bl _] | [.non] => Q (.bl false) g
    | _ => False
  | .istuple => match xs with
    | [.ref a] => ∃ ys, g a = some (.tup ys) ∧ Q (.bl true) g
    | _ => False
  | .islist => match xs with
    | [.ref a] => ∃ ys, g a = some (.lst ys) ∧ Q (.bl true) g
    | [.non] => Q (.bl false) g
    | _ => False
  | .sorted => False

/-- methods of built-in types -/
inductive Bm where
  | append | extend | pop | popK | insert | reverse | get | count | join | replace | partition | split | rfind
  deriving DecidableEq
def bmOk (m : Bm) (x : V) (g : G) : Prop :=
  match m, x with
  | .append, .ref a | .extend, .ref a | .insert, .ref a | .reverse, .ref a => ∃ xs, g a = some (.lst xs)
  | .pop, .ref a => ∃ xs, g a = some (.lst xs)
  | .popK, .ref a | .get, .ref a => ∃ kvs, g a = some (.dK kvs)
  | .count, .str _ | .join, .str _ | .replace, .str _ | .partition, .str _ | .split, .str _ | .rfind, .str _ => True
  | _, _ => False
def bmV (kl : Addr → List V → Prop) (m : Bm) (x : V) (vs : List V) (g : G) (Q : VG) : Prop :=
  match m with
  | .append => ∃ a xs y, x = .ref a ∧ vs = [y] ∧ g a = some (.lst xs) ∧ xs.length < sizeLine ∧ Q .non (gu g a (.lst (xs ++ [y])))
  | .extend => ∃ a b xs zs, x = .ref a ∧ vs = [.ref b] ∧ g a = some (.lst xs) ∧ g b = some (.lst zs) ∧ xs.length + zs.length ≤ sizeLine ∧ Q .non (gu g a (.lst (xs ++ zs)))
  | .pop => match vs with
    | [] => ∃ a xs y, x = .ref a ∧ g a = some (.lst xs) ∧ xs[xs.length - 1]? = some y ∧ Q y (gu g a (.lst xs.dropLast))
    | [k] => ∃ a xs i j y, x = .ref a ∧ k = .int i ∧ g a = some (.lst xs) ∧ -(2 ^ 63) ≤ i ∧ i < 2 ^ 63 ∧ seqIndex? i xs.length = some j ∧ xs[j]? = some y ∧ Q y (gu g a (.lst (xs.eraseIdx j)))
    | _ => False
  | .popK => ∃ a kvs q v, x = .ref a ∧ vs = [kV q] ∧ g a = some (.dK kvs) ∧ valV kvs q = some v ∧ Q v (gu g a (.dK (dropK kvs q)))
  | .reverse => ∃ a xs, x = .ref a ∧ vs = [] ∧ g a = some (.lst xs) ∧ Q .non (gu g a (.lst xs.reverse))
  | .count => ∃ a b, x = .str a ∧ vs = [.str b] ∧ Q (.int (Txt.count a b)) g
  | .join => ∃ a p, ∃ ys : List Str, x = .str a ∧ vs = [.ref p] ∧ Ls kl g p (ys.map V.str) ∧ (ys.map (·.length)).sum + ys.length * a.length ≤ 16777216 ∧ Q (.str (Txt.join a ys)) g
  | .partition => ∃ a b, x = .str a ∧ vs = [.str b] ∧ (b.length == 0) = false ∧ a.length ≤ sizeLine ∧
      ∀ p, g p = none → Q (.ref p) (gu g p (.tup [.str (Txt.partition a b).1, .str (Txt.partition a b).2.1, .str (Txt.partition a b).2.2]))
  | .split => ∃ a b, x = .str a ∧ vs = [.str b] ∧ (b.length == 0) = false ∧ a.length + 2 ≤ sizeLine ∧ ∀ p, g p = none → Q (.ref p) (gu g p (.lst ((Txt.split a b).map V.str)))
  | .insert => ∃ a xs i y, x = .ref a ∧ vs = [.int i, y] ∧ g a = some (.lst xs) ∧ xs.length < sizeLine ∧ 0 ≤ i ∧ i < 2 ^ 63 ∧ Q .non (gu g a (.lst (xs.take i.toNat ++ [y] ++ xs.drop i.toNat)))
  | .rfind => ∃ a b, x = .str a ∧ vs = [.str b] ∧ Q (.int (Txt.rfind a b)) g
  | _ => False

/-! ### expressions -/
def eV (i : Nat) : T := fun _ σ g Q => ∃ v, σ[i]? = some (some v) ∧ Q v g
def eC (v : V) : T := fun _ _ g Q => Q v g
def eBin (op : Operator) (a b : T) : T := fun c σ g Q => a c σ g fun x g1 => b c σ g1 fun y g2 => binV c.kl op x y g2 Q
def eNeg (a : T) : T := fun c σ g Q => a c σ g fun x g1 => ∃ i, x = .int i ∧ Q (.int (-i)) g1
def eCmp (op : CmpOp) (a b : T) : T := fun c σ g Q => a c σ g fun x g1 => b c σ g1 fun y g2 => cmpV c.kl op x y g2 fun k g3 => Q (.bl k) g3
/-- the rest of a chain: x is the left value -/
def chn : List (CmpOp × T) → V → Cal → St → G → VG → Prop
  | [], _, _, _, g, Q => Q (.bl true) g
  | [(op, b)], x, c, σ, g, Q => b c σ g fun y g2 => cmpV c.kl op x y g2 fun k g3 => Q (.bl k) g3
  | (op, b) :: r, x, c, σ, g, Q => b c σ g fun y g2 => cmpV c.kl op x y g2 fun k g3 => if k = true then chn r y c σ g3 Q else Q (.bl false) g3
def eChn (a : T) (r : List (CmpOp × T)) : T := fun c σ g Q => a c σ g fun x g1 => chn r x c σ g1 Q
def eAnd (a b : T) : T := fun c σ g Q => a c σ g fun x g1 => truV c.kl x g1 fun k g2 => if k = true then b c σ g2 Q else Q x g2
def eOr (a b : T) : T := fun c σ g Q => a c σ g fun x g1 => truV c.kl x g1 fun k g2 => if k = true then Q x g2 else b c σ g2 Q
def eNot (a : T) : T := fun c σ g Q => a c σ g fun x g1 => truV c.kl x g1 fun k g2 => Q (.bl (!k)) g2
def lNil : TLs := fun _ _ g Q => Q [] g
def lCons (a : T) (r : TLs) : TLs := fun c σ g Q => a c σ g fun x g1 => r c σ g1 fun xs g2 => Q (x :: xs) g2
def eTup (t : TLs) : T := fun c σ g Q => t c σ g fun xs g1 => xs.length ≤ sizeLine ∧ ∀ p, g1 p = none → Q (.ref p) (gu g1 p (.tup xs))
def eLst (t : TLs) : T := fun c σ g Q => t c σ g fun xs g1 => xs.length ≤ sizeLine ∧ ∀ p, g1 p = none → Q (.ref p) (gu g1 p (.lst xs))
def eDict0 : T := fun _ _ g Q => (∀ p, g p = none → Q (.ref p) (gu g p (.dK []))) ∨ (∀ p, g p = none → Q (.ref p) (gu g p (.dT [])))
def eIx (a b : T) : T := fun c σ g Q => a c σ g fun x g1 => b c σ g1 fun y g2 => ixV c.kl x y g2 Q
def oNone : Cal → St → G → (Option Int → G → Prop) → Prop := fun _ _ g Q => Q none g
def oSome (a : T) : Cal → St → G → (Option Int → G → Prop) → Prop := fun c σ g Q => a c σ g fun x g1 => ∃ i, x = .int i ∧ Q (some i) g1
def eSl (a : T) (l h : Cal → St → G → (Option Int → G → Prop) → Prop) : T := fun c σ g Q => a c σ g fun x g1 => l c σ g1 fun lo g2 => h c σ g2 fun hi g3 => slV c.kl x lo hi g3 Q
def eAt (a : T) (f : Nat) : T := fun c σ g Q => a c σ g fun x g1 => ∃ p cn fs v, x = .ref p ∧ g1 p = some (.ins cn fs) ∧ fs.lookup f = some v ∧ Q v g1
def eBi (f : Bi) (t : TLs) : T := fun c σ g Q => t c σ g fun xs g1 => biV c.kl f xs g1 Q
def eBm (m : Bm) (a : T) (t : TLs) : T := fun c σ g Q => a c σ g fun x g1 => bmOk m x g1 ∧ t c σ g1 fun vs g2 => bmV c.kl m x vs g2 Q
def eFn (f : Nat) (t : TLs) : T := fun c σ g Q => t c σ g fun vs g1 => c.fn f vs g1 Q fun e g2 => c.er e σ g2
/-- a new instance -/
def eMk (cn f : Nat) (t : TLs) : T := fun c σ g Q => t c σ g fun vs g1 => ∀ p, g1 p = none → c.fn f (.ref p :: vs) (gu g1 p (.ins cn [])) (fun v g2 => v = .non ∧ Q (.ref p) g2) fun e g2 => c.er e σ g2
/-- the pairs of a display -/
def dPairs : List (T × T) → Cal → St → G → (List (V × V) → G → Prop) → Prop
  | [], _, _, g, Q => Q [] g
  | (tk, tv) :: r, c, σ, g, Q => tk c σ g fun x g1 => tv c σ g1 fun y g2 => dPairs r c σ g2 fun ps g3 => Q ((x, y) :: ps) g3
/-- {k: v, ..}; the dict stands empty while the pairs are made -/
def eDisp (trs : List (T × T)) : T := fun c σ g Q => ∀ p, g p = none → dPairs trs c σ (gu g p (.dK [])) fun ps g2 => g2 p = some (.dK []) ∧ ∃ kvs : List (Key × V), ps = kvs.map (fun kv => (kV kv.1, kv.2)) ∧ kvs.length ≤ 15 ∧ Q (.ref p) (gu g2 p (.dK (mergeK [] kvs)))
/-- the class of what a method is called of -/
def clsOf (g : G) : V → Option Nat
  | .ref a => match g a with
    | some (.ins cn _) => some cn
    | some (.shf _) => some 0
    | _ => none
  | _ => none
/-- o.m(..): ms tells the def by the class -/
def eMt (ms : List (Nat × Nat)) (a : T) (t : TLs) : T := fun c σ g Q => a c σ g fun x g1 => ∃ cn f, clsOf g1 x = some cn ∧ ms.lookup cn = some f ∧ t c σ g1 fun vs g2 => c.fn f (x :: vs) g2 Q fun e g3 => c.er e σ g3

/-- new tuples, one for each pair -/
def zipNew : List (V × V) → G → (List Addr → G → Prop) → Prop
  | [], g, Q => Q [] g
  | p :: r, g, Q => ∀ a, g a = none → zipNew r (gu g a (.tup [p.1, p.2])) fun as g' => Q (a :: as) g'
/-- list(zip(a, b)) -/
def eLzip (a b : T) : T := fun c σ g Q => a c σ g fun x g1 => b c σ g1 fun y g2 => ∃ p q xs ys, x = .ref p ∧ y = .ref q ∧ Ls c.kl g2 p xs ∧ Ls c.kl g2 q ys ∧
  zipNew (xs.zip ys) g2 fun as g3 => ∀ D, g3 D = none → Q (.ref D) (gu g3 D (.lst (as.map V.ref)))

/-! ### tests -/
def tVal (a : T) : TB := fun c σ g Q => a c σ g fun x g1 => truV c.kl x g1 Q
def tAnd (a b : TB) : TB := fun c σ g Q => a c σ g fun k g1 => if k = true then b c σ g1 Q else Q false g1
def tOr (a b : TB) : TB := fun c σ g Q => a c σ g fun k g1 => if k = true then Q true g1 else b c σ g1 Q
def tNot (a : TB) : TB := fun c σ g Q => a c σ g fun k g1 => Q (!k) g1
def tBl (a : T) : TB := fun c σ g Q => a c σ g fun x g1 => ∃ k, x = .bl k ∧ Q k g1
def tYes : TB := fun _ _ g Q => Q true g

/-! ### what is walked -/
inductive Sq where
  | lst (a : Addr) (xs : List V)
  | tup (a : Addr) (xs : List V)
  | rng (lo st : Int) (n : Nat)
  | str (x : Str)
  | enm (a : Addr) (xs : List V)
  | zip (a b : Addr) (xs ys : List V)
def Sq.len : Sq → Nat
  | .lst _ xs | .tup _ xs | .enm _ xs => xs.length
  | .rng _ _ n => n
  | .str x => x.cps.size
  | .zip _ _ xs ys => min xs.length ys.length
def Sq.ok (kl : Addr → List V → Prop) (g : G) : Sq → Prop
  | .lst a xs | .enm a xs => Ls kl g a xs
  | .tup a xs => g a = some (.tup xs)
  | .zip a b xs ys => Ls kl g a xs ∧ Ls kl g b ys
  | _ => True
def Sq.item (i : Nat) (g : G) (Q : V → G → Prop) : Sq → Prop
  | .lst _ xs | .tup _ xs => ∀ x, xs[i]? = some x → Q x g
  | .rng lo st _ => Q (.int (lo + (i : Nat) * st)) g
  | .str z => ∀ c, z.cps[i]? = some c → Q (.str ⟨#[c]⟩) g
  | .enm _ xs => ∀ p x, xs[i]? = some x → g p = none → Q (.ref p) (gu g p (.tup [.int (i : Nat), x]))
  | .zip _ _ xs ys => ∀ p x y, xs[i]? = some x → ys[i]? = some y → g p = none → Q (.ref p) (gu g p (.tup [x, y]))
abbrev TI := Cal → St → G → (Sq → G → Prop) → Prop
/-- a list, a tuple, a text -/
def wkV (kl : Addr → List V → Prop) (x : V) (g1 : G) (R : Sq → G → Prop) : Prop := match x with
  | .str z => R (.str z) g1
  | .ref p => (∃ xs, Ls kl g1 p xs ∧ R (.lst p xs) g1) ∨ ∃ xs, g1 p = some (.tup xs) ∧ R (.tup p xs) g1
  | _ => False
def iVal (a : T) : TI := fun c σ g R => a c σ g fun x g1 => wkV c.kl x g1 R
def iRng1 (a : T) : TI := fun c σ g R => a c σ g fun x g1 => ∃ j : Int, x = .int j ∧ -(2 ^ 62) ≤ j ∧ j < 2 ^ 62 ∧ R (.rng 0 1 j.toNat) g1
def iRng2 (a b : T) : TI := fun c σ g R => a c σ g fun x g1 => b c σ g1 fun y g2 => ∃ i j : Int, x = .int i ∧ y = .int j ∧ -(2 ^ 62) ≤ i ∧ i < 2 ^ 62 ∧ -(2 ^ 62) ≤ j ∧ j < 2 ^ 62 ∧ R (.rng i 1 (j - i).toNat) g2
def iRng3 (a b d : T) : TI := fun c σ g R => a c σ g fun x g1 => b c σ g1 fun y g2 => d c σ g2 fun z g3 => ∃ (i j s : Int) (n : Nat), x = .int i ∧ y = .int j ∧ z = .int s ∧ RgC i j s n ∧ R (.rng i s n) g3
def iEnm (a : T) : TI := fun c σ g R => a c σ g fun x g1 => ∃ p xs, x = .ref p ∧ Ls c.kl g1 p xs ∧ R (.enm p xs) g1
def iZip (a b : T) : TI := fun c σ g R => a c σ g fun x g1 => b c σ g1 fun y g2 => ∃ p q xs ys, x = .ref p ∧ y = .ref q ∧ Ls c.kl g2 p xs ∧ Ls c.kl g2 q ys ∧ R (.zip p q xs ys) g2

/-! ### targets -/
def gN (i : Nat) : TTg := fun _ v σ g Q => Q (σ.set i (some v)) g
def gTp (is : List Nat) : TTg := fun _ v σ g Q => ∃ a xs, v = .ref a ∧ g a = some (.tup xs) ∧ xs.length = is.length ∧ Q ((is.zip xs).foldl (fun s p => s.set p.1 (some p.2)) σ) g

/-! ### comprehensions -/
def eLc (src : TI) (tg : TTg) (tt : TB) (e : T) (own : List Nat) : T := fun c σ g Q => src c σ g fun S g1 => ∀ D, g1 D = none → ∃ W : Nat → List V → G → Prop, W 0 [] (gu g1 D (.lst [])) ∧ ∀ i acc g2, W i acc g2 →
  S.ok c.kl g2 ∧ g2 D = some (.lst acc) ∧ if i < S.len then S.item i g2 fun x g3 => tg c x (wipe σ own) g3 fun σ4 g4 => wipe σ4 own = wipe σ own ∧ tt { c with er := fun _ _ _ => False } σ4 g4 fun b g5 =>
    if b = true then e { c with er := fun _ _ _ => False } σ4 g5 fun y g6 => g6 D = some (.lst acc) ∧ acc.length < sizeLine ∧ ∃ g7, Sub g7 (gu g6 D (.lst (acc ++ [y]))) ∧ W (i + 1) (acc ++ [y]) g7 else ∃ g7, Sub g7 g5 ∧ W (i + 1) acc g7
  else Q (.ref D) g2

/-! ### statements -/
def sNext : TSt := fun _ D σ g => D.nx σ g
def sSeq (a b : TSt) : TSt := fun c D σ g => a c { D with nx := b c D } σ g
def sDrop (e : T) : TSt := fun c D σ g => e c σ g fun _ g1 => D.nx σ g1
def sRet (e : T) : TSt := fun c D σ g => e c σ g D.rt
def sRetN : TSt := fun _ D _ g => D.rt .non g
def sIf (t : TB) (a b : TSt) : TSt := fun c D σ g => t c σ g fun k g1 => if k = true then a c D σ g1 else b c D σ g1
def sBrk : TSt := fun _ D σ g => D.bk σ g
def sAsg (e : T) (t : TTg) : TSt := fun c D σ g => e c σ g fun x g1 => t c x σ g1 D.nx
def sSetIx (o i e : T) : TSt := fun c D σ g => e c σ g fun v g1 => o c σ g1 fun x g2 => i c σ g2 fun y g3 => ∃ a, x = .ref a ∧
  ((∃ xs k j, y = .int k ∧ g3 a = some (.lst xs) ∧ ixN xs.length k = some j ∧ D.nx σ (gu g3 a (.lst (xs.set j v)))) ∨ ∃ g4, dPut g3 a y v g4 ∧ D.nx σ g4)
def sSetAt (o : T) (f : Nat) (e : T) : TSt := fun c D σ g => e c σ g fun v g1 => o c σ g1 fun x g2 => ∃ a cn fs, x = .ref a ∧ g2 a = some (.ins cn fs) ∧ f ∈ atOf cn ∧ fs.length < 1000 ∧ D.nx σ (gu g2 a (.ins cn (putN f v fs)))
def sRaise (e : Nat) : TSt := fun c _ σ g => c.er e σ g
def sWhile (t : TB) (b : TSt) : TSt := fun c D σ g => ∃ W : Nat → St → G → Prop, (∃ m, W m σ g) ∧ ∀ m σ g, W m σ g → t c σ g fun k g1 =>
  if k = true then b c { D with nx := fun σ' g' => ∃ m' g'', m' < m ∧ Sub g'' g' ∧ W m' σ' g'', ct := fun σ' g' => ∃ m' g'', m' < m ∧ Sub g'' g' ∧ W m' σ' g'', bk := D.nx } σ g1 else D.nx σ g1
def sFor (src : TI) (tg : TTg) (b : TSt) : TSt := fun c D σ g => src c σ g fun S g1 => ∃ W : Nat → St → G → Prop, W 0 σ g1 ∧ ∀ i σ g, W i σ g →
  S.ok c.kl g ∧ if i < S.len then S.item i g fun x g3 => tg c x σ g3 fun σ4 g4 =>
    b c { D with nx := fun σ' g' => ∃ g'', Sub g'' g' ∧ W (i + 1) σ' g'', ct := fun σ' g' => ∃ g'', Sub g'' g' ∧ W (i + 1) σ' g'', bk := D.nx } σ4 g4
  else D.nx σ g

/-! ### defs, by call depth -/
structure FDef where
  n : Nat
  sz : Nat
  body : TSt
def startG (sz : Nat) (vs : List V) : St := vs.map some ++ List.replicate (sz - vs.length) none
/-- what a def promises at a depth; what it dropped may be forgotten at its end -/
def Gam (kl : Addr → List V → Prop) (base : Nat → SpG) (defs : Nat → Option FDef) : Nat → Nat → SpG
  | 0, f => base f
  | k + 1, f => fun vs g Q E => base f vs g Q E ∨ match defs f with
    | some d => vs.length = d.n ∧ d.body ⟨kl, Gam kl base defs k, fun e _ g' => ∃ g'', Sub g'' g' ∧ E e g''⟩ ⟨fun _ g' => ∃ g'', Sub g'' g' ∧ Q .non g'', fun v g' => ∃ g'', Sub g'' g' ∧ Q v g'', fun _ _ => False, fun _ _ => False⟩ (startG d.sz vs) g
    | none => False
end SW
end

section
set_option Elab.async false
set_option linter.all false
set_option maxRecDepth 100000
set_option maxHeartbeats 4000000
/-! How the abstract heap lies in the hand layer's heap; operations on values. -/
namespace SW
open PySem PySem.Spec PyProof.Rows L2

theorem gu_same {g : G} {a : Addr} {o : O} : gu g a o a = some o := by unfold gu; rw [if_pos rfl]
theorem gu_ne {g : G} {a b : Addr} {o : O} (h : b ≠ a) : gu g a o b = g b := by unfold gu; rw [if_neg h]

structure Prm where
  K : PySem.W.Frag
  kl : Addr → List V → Prop
  cls : Nat → Option Addr

def nmF (fs : List (Nat × V)) : List (Str × V) := fs.map fun p => (anOf p.1, p.2)

structure ShL where
  a1 : Addr
  a2 : Addr
  a3 : Addr
  a4 : Addr
  a5 : Addr
  a6 : Addr
  a7 : Addr
  a8 : Addr
def ShL.all (l : ShL) : List Addr := [l.a1, l.a2, l.a3, l.a4, l.a5, l.a6, l.a7, l.a8]
/-- a Shelf's attributes: pieces, numbers, told_signs, told_ends, told_leaves, told_heights, firsts, lasts -/
def ShL.fs (l : ShL) : List (Nat × V) := [(0, .ref l.a1), (1, .ref l.a2), (2, .ref l.a3), (3, .ref l.a4), (4, .ref l.a5), (5, .ref l.a6), (6, .ref l.a7), (7, .ref l.a8)]
def pcK : Sum Str (Nat × Nat) → List Key
  | .inl s => [.inr "leaf", .inr s]
  | .inr (a, b) => [.inr "fork", .inl (a : Int), .inl (b : Int)]
def shD : Nat → Sh → List (List Key × V)
  | _, [] => []
  | n, r :: S => (pcK r.pc, .int ((n : Int) + 1)) :: shD (n + 1) S
/-- the shelf's objects -/
structure ShObj (H : Hp) (l : ShL) (ts : List Addr) (S : Sh) : Prop where
  len : ts.length = S.length
  tu : ∀ (i : Nat) (t : Addr) (r : PRec), ts[i]? = some t → S[i]? = some r → H t = some (.tup ((pcK r.pc).map kV))
  o1 : H l.a1 = some (.lst (.non :: ts.map V.ref))
  o2 : H l.a2 = some (.dT (shD 0 S))
  o3 : H l.a3 = some (.lst (.int 0 :: S.map fun r => .int r.sg))
  o4 : H l.a4 = some (.lst (.int 0 :: S.map fun r => .int r.en))
  o5 : H l.a5 = some (.lst (.int 0 :: S.map fun r => .int r.lv))
  o6 : H l.a6 = some (.lst (.int (-1) :: S.map fun r => .int r.ht))
  o7 : H l.a7 = some (.lst (.int 0 :: S.map fun r => .int r.fi))
  o8 : H l.a8 = some (.lst (.int 0 :: S.map fun r => .int r.la))

abbrev Own := Addr → Option Addr
structure ShAt (P : Prm) (own : Own) (H : Hp) (a : Addr) (S : Sh) : Prop where
  ex : ∃ C dx l ts, P.cls 0 = some C ∧ H a = some (.ins C dx (nmF l.fs)) ∧ (∀ b ∈ l.all, own b = some a) ∧ l.all.Nodup ∧ ShObj H l ts S

def OkAt (P : Prm) (own : Own) (H : Hp) (a : Addr) : O → Prop
  | .lst xs => H a = some (.lst xs)
  | .tup xs => H a = some (.tup xs)
  | .dK kvs => H a = some (.dK kvs)
  | .dT kvs => H a = some (.dT kvs)
  | .ins c fs => ∃ C dx, P.cls c = some C ∧ H a = some (.ins C dx (nmF fs)) ∧ ∀ p ∈ fs, p.1 ∈ atOf c
  | .shf S => ShAt P own H a S
structure Abs (P : Prm) (own : Own) (g : G) (H : Hp) : Prop where
  at_ : ∀ a o, g a = some o → own a = none ∧ OkAt P own H a o
  live : ∀ b a, own b = some a → (∃ xs, H b = some (.lst xs)) ∨ ∃ kvs, H b = some (.dT kvs)
  kl : ∀ a xs, P.kl a xs → (∃ o, H a = some (.frz o (.lst xs))) ∨
    ∃ (o : Obj) (its : Array Value) (n : Nat), P.K.lookup a = some o ∧ o.cls = .type "list" ∧ o.dict = none ∧ o.data = .seq its n ∧ its.size ≤ sizeLine ∧ Vals xs its.toList
def Ab (P : Prm) (g : G) (H : Hp) : Prop := ∃ own, Abs P own g H

section
variable {P : Prm} {own : Own} {g g' : G} {H H' : Hp} {a x : Addr} {o : O} {u u0 : HO}
theorem ShObj.mono {l : ShL} {ts : List Addr} {S : Sh} (h : ShObj H l ts S) (k : ∀ b u, (b ∈ l.all ∨ b ∈ ts) → H b = some u → H' b = some u) : ShObj H' l ts S := by
  refine ⟨h.len, fun i t r e1 e2 => k _ _ (.inr (List.mem_of_getElem? e1)) (h.tu i t r e1 e2), k _ _ (.inl ?_) h.o1, k _ _ (.inl ?_) h.o2, k _ _ (.inl ?_) h.o3, k _ _ (.inl ?_) h.o4, k _ _ (.inl ?_) h.o5, k _ _ (.inl ?_) h.o6, k _ _ (.inl ?_) h.o7, k _ _ (.inl ?_) h.o8⟩ <;> simp [ShL.all]
/-- two heaps that agree on what is there but at x, an object that no shelf owns -/
theorem OkAt.keep (h : OkAt P own H a o) (k : ∀ b u, b ≠ x → H b = some u → H' b = some u) (hx : own x = none) (ht : ∀ xs, H x ≠ some (.tup xs)) (ne : a ≠ x) : OkAt P own H' a o := by
  cases o with
  | lst xs => exact k _ _ ne h
  | tup xs => exact k _ _ ne h
  | dK xs => exact k _ _ ne h
  | dT xs => exact k _ _ ne h
  | ins c fs => obtain ⟨C, dx, e, h, q⟩ := h; exact ⟨C, dx, e, k _ _ ne h, q⟩
  | shf S =>
    obtain ⟨C, dx, l, ts, e, h, q, nd, ob⟩ := h.ex
    refine ⟨⟨C, dx, l, ts, e, k _ _ ne h, q, nd, ob.mono fun b u hb hu => k b u ?_ hu⟩⟩
    rintro rfl
    rcases hb with hb | hb
    · rw [q _ hb] at hx; cases hx
    · obtain ⟨i, hi⟩ := List.getElem?_of_mem hb
      have hl : i < S.length := by rw [← ob.len]; exact (List.getElem?_eq_some_iff.mp hi).1
      exact ht _ (ob.tu i _ _ hi (List.getElem?_eq_getElem hl))
theorem OkAt.some (h : OkAt P own H a o) : H a ≠ none := by
  cases o with
  | lst xs => intro e; rw [show H a = _ from h] at e; cases e
  | tup xs => intro e; rw [show H a = _ from h] at e; cases e
  | dK xs => intro e; rw [show H a = _ from h] at e; cases e
  | dT xs => intro e; rw [show H a = _ from h] at e; cases e
  | ins c fs => obtain ⟨C, dx, e, h, q⟩ := h; rw [h]; exact fun z => nomatch z
  | shf S => obtain ⟨C, dx, l, ts, e, h, q, nd, ob⟩ := h.ex; rw [h]; exact fun z => nomatch z
theorem Ab.sub (h : Ab P g H) (s : Sub g' g) : Ab P g' H := let ⟨own, h⟩ := h; ⟨own, fun a o e => h.at_ a o (s a o e), h.live, h.kl⟩
theorem Ab.fresh (h : Ab P g H) (e : H a = none) : g a = none := by
  obtain ⟨own, h⟩ := h
  cases q : g a with
  | none => rfl
  | some o => exact absurd e (h.at_ a o q).2.some
/-- new objects (p among those where H was empty) -/
theorem Ab.new (h : Ab P g H) (e : H a = none) (k : ∀ b v, H b = some v → H' b = some v) (ok : ∀ own, OkAt P own H' a o) : Ab P (gu g a o) H' := by
  obtain ⟨own, h⟩ := h
  have hg : g a = none := Ab.fresh ⟨own, h⟩ e
  have ho : own a = none := by
    cases q : own a with
    | none => rfl
    | some z => rcases h.live _ _ q with ⟨_, z⟩ | ⟨_, z⟩ <;> rw [e] at z <;> cases z
  refine ⟨own, fun b v q => ?_, fun b c q => ?_, fun b xs q => ?_⟩
  · by_cases hb : b = a
    · subst hb; rw [gu_same] at q; cases q; exact ⟨ho, ok own⟩
    · rw [gu_ne hb] at q
      obtain ⟨h1, h2⟩ := h.at_ b v q
      exact ⟨h1, h2.keep (fun c u _ z => k c u z) ho (fun xs z => by rw [e] at z; cases z) hb⟩
  · rcases h.live _ _ q with ⟨xs, z⟩ | ⟨xs, z⟩
    · exact .inl ⟨xs, k _ _ z⟩
    · exact .inr ⟨xs, k _ _ z⟩
  · rcases h.kl b xs q with ⟨o, z⟩ | z
    · exact .inl ⟨o, k _ _ z⟩
    · exact .inr z
/-- an object is changed -/
theorem Ab.set {o0 : O} (h : Ab P g H) (hg : g a = some o0) (hu : H a = some u0) (nt : ∀ xs, u0 ≠ .tup xs) (nf : ∀ q r, u0 ≠ .frz q r) (ok : ∀ own, OkAt P own (upd H a u) a o) : Ab P (gu g a o) (upd H a u) := by
  obtain ⟨own, h⟩ := h
  have ho : own a = none := (h.at_ a o0 hg).1
  refine ⟨own, fun b v q => ?_, fun b c q => ?_, fun b xs q => ?_⟩
  · by_cases hb : b = a
    · subst hb; rw [gu_same] at q; cases q; exact ⟨ho, ok own⟩
    · rw [gu_ne hb] at q
      obtain ⟨h1, h2⟩ := h.at_ b v q
      exact ⟨h1, h2.keep (fun c u hc z => by rw [upd_ne hc]; exact z) ho (fun xs z => by rw [hu] at z; cases z; exact nt _ rfl) hb⟩
  · by_cases hb : b = a
    · subst hb; rw [ho] at q; cases q
    · rw [upd_ne hb]; exact h.live _ _ q
  · rcases h.kl b xs q with ⟨o, z⟩ | z
    · refine .inl ⟨o, ?_⟩
      rw [upd_ne]
      · exact z
      · rintro rfl; rw [hu] at z; cases z; exact nf _ _ rfl
    · exact .inr z
theorem Ab.lst {xs} (h : Ab P g H) (e : g a = some (.lst xs)) : H a = some (.lst xs) := let ⟨_, h⟩ := h; (h.at_ _ _ e).2
theorem Ab.tup {xs} (h : Ab P g H) (e : g a = some (.tup xs)) : H a = some (.tup xs) := let ⟨_, h⟩ := h; (h.at_ _ _ e).2
theorem Ab.dK {xs} (h : Ab P g H) (e : g a = some (.dK xs)) : H a = some (.dK xs) := let ⟨_, h⟩ := h; (h.at_ _ _ e).2
theorem Ab.dT {xs} (h : Ab P g H) (e : g a = some (.dT xs)) : H a = some (.dT xs) := let ⟨_, h⟩ := h; (h.at_ _ _ e).2
theorem Ab.ins {c fs} (h : Ab P g H) (e : g a = some (.ins c fs)) : ∃ C dx, P.cls c = some C ∧ H a = some (.ins C dx (nmF fs)) ∧ ∀ p ∈ fs, p.1 ∈ atOf c := let ⟨_, h⟩ := h; (h.at_ _ _ e).2
theorem Ab.setL {xs ys} (h : Ab P g H) (e : g a = some (.lst xs)) : Ab P (gu g a (.lst ys)) (upd H a (.lst ys)) :=
  h.set e (h.lst e) (fun _ z => nomatch z) (fun _ _ z => nomatch z) fun _ => upd_same
theorem Ab.setK {xs ys} (h : Ab P g H) (e : g a = some (.dK xs)) : Ab P (gu g a (.dK ys)) (upd H a (.dK ys)) :=
  h.set e (h.dK e) (fun _ z => nomatch z) (fun _ _ z => nomatch z) fun _ => upd_same
theorem Ab.setT {xs ys} (h : Ab P g H) (e : g a = some (.dT xs)) : Ab P (gu g a (.dT ys)) (upd H a (.dT ys)) :=
  h.set e (h.dT e) (fun _ z => nomatch z) (fun _ _ z => nomatch z) fun _ => upd_same
theorem keep_upd (e : H a = none) : ∀ b v, H b = some v → upd H a u b = some v := fun b v z => by
  rw [upd_ne (ne_of_none z e)]; exact z
theorem Ab.newL {xs} (h : Ab P g H) (e : H a = none) : Ab P (gu g a (.lst xs)) (upd H a (.lst xs)) := h.new e (keep_upd e) fun _ => upd_same
theorem Ab.newU {xs} (h : Ab P g H) (e : H a = none) : Ab P (gu g a (.tup xs)) (upd H a (.tup xs)) := h.new e (keep_upd e) fun _ => upd_same
theorem Ab.newK {xs} (h : Ab P g H) (e : H a = none) : Ab P (gu g a (.dK xs)) (upd H a (.dK xs)) := h.new e (keep_upd e) fun _ => upd_same
theorem Ab.newT {xs} (h : Ab P g H) (e : H a = none) : Ab P (gu g a (.dT xs)) (upd H a (.dT xs)) := h.new e (keep_upd e) fun _ => upd_same
theorem Ab.ls {xs} (h : Ab P g H) (l : Ls P.kl g a xs) : SqL P.K H a xs := by
  rcases l with l | l
  · exact SqL.of (h.lst l)
  · obtain ⟨own, h⟩ := h
    rcases h.kl a xs l with ⟨o, z⟩ | z
    · exact .inl (.inr ⟨o, z⟩)
    · exact .inr z
theorem Ab.tp {xs} (h : Ab P g H) (l : g a = some (.tup xs)) : SqT P.K H a xs := SqT.of (h.tup l)
mutual
theorem Ab.dg (h : Ab P g H) : ∀ {v : V} {d : PyData}, Dg P.kl g v d → Dp P.K H v d
  | _, _, .non => .non
  | _, _, .bl b => .bl b
  | _, _, .int i => .int i
  | _, _, .str x => .str x
  | _, _, .lst l r => .lst (h.ls l) (Ab.dgs h r)
  | _, _, .tup l r => .tup (h.tp l) (Ab.dgs h r)
theorem Ab.dgs (h : Ab P g H) : ∀ {v : List V} {d : List PyData}, DgAll P.kl g v d → DpAll P.K H v d
  | _, _, .nil => .nil
  | _, _, .cons r t => .cons (Ab.dg h r) (Ab.dgs h t)
end
theorem Ab.dget {y r} (h : Ab P g H) (d : dGet g a y r) : DGet H a y r := by
  rcases d with ⟨kvs, k, e, rfl, rfl⟩ | ⟨kvs, k, b, e, rfl, eb, rfl⟩
  · exact .inl ⟨kvs, k, .inl (h.dK e), rfl, rfl⟩
  · exact .inr ⟨kvs, k, b, .inl (h.dT e), rfl, h.tup eb, rfl⟩
theorem Ab.dput {y v} (h : Ab P g H) (d : dPut g a y v g') : ∃ H', DPut H a y v H' ∧ Ab P g' H' := by
  rcases d with ⟨kvs, k, e, rfl, hl, rfl⟩ | ⟨kvs, k, b, e, rfl, eb, hl, rfl⟩
  · exact ⟨_, .inl ⟨kvs, k, h.dK e, rfl, hl, rfl⟩, h.setK e⟩
  · exact ⟨_, .inr ⟨kvs, k, b, h.dT e, rfl, h.tup eb, hl, rfl⟩, h.setT e⟩
end

/-! ### a reading of the abstract heap as one of the hand layer's -/
def Lo (P : Prm) {α : Type} (t : G → (α → G → Prop) → Prop) : Hp → (α → Hp → Prop) → Prop := fun H Q =>
  ∃ g Q', Ab P g H ∧ t g Q' ∧ ∀ v g' H', Q' v g' → Ab P g' H' → Q v H'
section
variable {P : Prm} {α β : Type} {H : Hp}
theorem Lo.bind {a : G → (α → G → Prop) → Prop} {k : α → G → (β → G → Prop) → Prop} {Q : β → Hp → Prop} (h : Lo P (fun g Q => a g fun x g1 => k x g1 Q) H Q) : Lo P a H (fun x H1 => Lo P (k x) H1 Q) := by
  obtain ⟨g, Q', A, h, i⟩ := h
  exact ⟨g, _, A, h, fun x g1 H1 hk A1 => ⟨g1, Q', A1, hk, i⟩⟩
end
theorem PE.imp {X : Cx} {e : Expr} {t t' : TE} (h : PE X e t) (i : ∀ σ H Q, t' σ H Q → t σ H Q) : PE X e t' := ⟨fun pins s σ H Q I q => h.run pins s σ H Q I (i σ H Q q)⟩
theorem PT.imp {X : Cx} {e : Expr} {t t' : TT} (h : PT X e t) (i : ∀ σ H Q, t' σ H Q → t σ H Q) : PT X e t' := ⟨fun pins s σ H Q I q => h.run pins s σ H Q I (i σ H Q q)⟩
theorem PA.imp {X : Cx} {e : List Expr} {t t' : TA} (h : PA X e t) (i : ∀ σ H Q, t' σ H Q → t σ H Q) : PA X e t' := ⟨fun pos pins s σ H Q I q => h.run pos pins s σ H Q I (i σ H Q q)⟩
theorem PS.imp {X : Cx} {e : Stmt} {t t' : TS} (h : PS X e t) (i : ∀ D σ H, t' D σ H → t D σ H) : PS X e t' := ⟨fun pins s σ H D I q => h.run pins s σ H D I (i D σ H q)⟩
theorem PSs.imp {X : Cx} {e : List Stmt} {t t' : TS} (h : PSs X e t) (i : ∀ D σ H, t' D σ H → t D σ H) : PSs X e t' := ⟨fun pins s σ H D I q => h.run pins s σ H D I (i D σ H q)⟩

/-! ### operations -/
section
variable {P : Prm} {X : Cx}
theorem add_seq {prog : Program} {w : World} {A : Around} {E : Value → Shared → Prop} {s : Shared} {l b : Addr} {vs ws : List Value} {Q : Value → Shared → Prop} (hl : PlainL s.heap l vs.toArray) (hb : PlainL s.heap b ws.toArray)
    (hsz : vs.length + ws.length ≤ sizeLine) (h : Q (.ref s.heap.objs.size) { s with heap := s.heap.push { cls := .type "list", data := .seq (vs ++ ws).toArray } }) :
    wpAny (model prog w) A (binaryOp .Add (.ref l) (.ref b)) Q E s := by
  obtain ⟨⟨cls, dd, data, sl⟩, n, ho, hc, hz, hd⟩ := id hl
  obtain ⟨⟨cls2, dd2, data2, sl2⟩, n2, ho2, hc2, hz2, hd2⟩ := id hb
  simp only at hc hd hc2 hd2
  subst hc hd hc2 hd2
  have e : vs.toArray ++ ws.toArray = (vs ++ ws).toArray := by simp
  refine concat_meets ⟨_, ho, rfl⟩ ⟨_, ho2, rfl⟩ noFill_list_add seq_list_add PySem.F.slot_list_add PySem.F.entry_list_add (PySem.F.args_list_add_2 _ _) (list_addW l b vs.toArray ws.toArray n n2 dd dd2 sl sl2 (by simpa using hsz)) ⟨ho, ho2, ?_⟩
  rw [e]
  exact h
theorem foldl_cat {α : Type} : ∀ (l : List (Array α)) (z : Array α), l.foldl (· ++ ·) z = (z.toList ++ (l.map Array.toList).flatten).toArray
  | [], z => by simp
  | a :: r, z => by rw [List.foldl_cons, foldl_cat r]; simp
theorem strRep (a : Str) (k : Nat) : (⟨(List.replicate k a.cps).foldl (· ++ ·) #[]⟩ : Str) = ⟨(List.replicate k a.cps.toList).flatten.toArray⟩ := by
  rw [foldl_cat]; simp
theorem op_bin (hK : X.K = P.K) {op : Operator} : OpR X (binaryOp op) (fun x y H Q => Lo P (binV P.kl op x y) H Q) := by
  intro pins s σ H x y v u Q I rx ry h
  obtain ⟨g, Q', A, h, i⟩ := h
  unfold binV at h
  split at h
  · exact op_add pins s σ H _ _ v u Q I rx ry ⟨_, _, rfl, rfl, i _ _ _ h A⟩
  · exact op_add_str pins s σ H _ _ v u Q I rx ry ⟨_, _, rfl, rfl, h.1, i _ _ _ h.2 A⟩
  · obtain ⟨xs, ys, l1, l2, hz, q⟩ := h
    cases rx; cases ry
    have s1 := A.ls l1
    have s2 := A.ls l2
    rw [← hK] at s1 s2
    obtain ⟨its, r1, p1, z1⟩ := I.list s1
    obtain ⟨its2, r2, p2, z2⟩ := I.list s2
    refine add_seq p1 p2 (by rw [← r1.length, ← r2.length]; exact hz) ?_
    exact ⟨.ref _, _, I.lnew (t' := s.toks) (r1.append r2) (by rw [List.length_append]; exact hz), rfl, i _ _ _ (q _ (A.fresh I.fresh)) (A.newL I.fresh)⟩
  · exact op_sub pins s σ H _ _ v u Q I rx ry ⟨_, _, rfl, rfl, i _ _ _ h A⟩
  · exact op_mulW pins s σ H _ _ v u Q I rx ry ⟨_, _, rfl, rfl, h.1, i _ _ _ h.2 A⟩
  · rename_i a k
    obtain ⟨h1, h2, h3, q⟩ := h
    obtain ⟨t, rfl⟩ := rx
    obtain ⟨t', rfl⟩ := ry
    have fin : ∀ (t : Tok) s', Inv X pins σ H s' → EP X pins σ Q (.str ⟨(List.replicate k.toNat a.cps.toList).flatten.toArray⟩ t) s' := fun t s' I' => ⟨.str _, H, I', ⟨t, rfl⟩, i _ _ _ q A⟩
    have emp : k < 1 → (Str.empty : Str) = ⟨(List.replicate k.toNat a.cps.toList).flatten.toArray⟩ := fun hk => by
      have : k.toNat = 0 := by omega
      rw [this]; rfl
    refine PySem.P.mul_str (by
        have h3 : ¬ k < -(2 ^ 63) := by omega
        have h4 : ¬ k ≥ 2 ^ 63 := by omega
        rw [decide_eq_false h3, decide_eq_false h4]; rfl) (fun k1 k2 => ?_) (fun k1 k2 => ?_) ?_
    · have e : (k.toNat : Int) = k := by omega
      have hz : (a.length : Int) * k ≤ 2 ^ 24 := by
        have : ((a.length * k.toNat : Nat) : Int) ≤ (2 ^ 24 : Nat) := Int.ofNat_le.mpr h3
        rw [Int.natCast_mul, e] at this
        simpa using this
      intro hgt
      have hk : (0 : Int) < k := by omega
      have := Int.lt_mul_of_ediv_lt hk hgt
      omega
    · show decide (_ > _) = false
      rw [decide_eq_false]
      show ¬ (_ : Nat) > _
      omega
    · by_cases hk : k < 1
      · rw [if_pos hk]
        refine ⟨by decide, ?_⟩
        rw [emp hk]
        exact fin _ _ (I.tok _)
      · rw [if_neg hk]
        by_cases hk2 : (k == 1 || a.length == 0) = true
        · rw [if_pos hk2]
          have e : a = ⟨(List.replicate k.toNat a.cps.toList).flatten.toArray⟩ := by
            rcases Bool.or_eq_true_iff.mp hk2 with z | z
            · have : k = 1 := by simpa using z
              subst this
              apply Str.ext'
              simp
            · have z2 : a.cps.size = 0 := by
                have : (a.length == 0) = true := z
                exact of_decide_eq_true this
              apply Str.ext'
              have z3 : a.cps.toList = [] := by
                apply List.eq_nil_of_length_eq_zero
                simpa using z2
              rw [z3]
              have z4 : a.cps = #[] := by
                apply Array.toList_inj.mp
                rw [z3]
              rw [z4]
              simp
          show EP X pins σ Q (.str a t) s
          have := fin t s I
          rw [← e] at this
          exact this
        · rw [if_neg hk2]
          refine ⟨?_, ?_⟩
          · rw [strRep]
            have : (Str.mk (List.replicate k.toNat a.cps.toList).flatten.toArray).length = k.toNat * a.length := by
              show Array.size _ = _
              simp [Str.length]
            rw [this, Nat.mul_comm]
            omega
          · rw [strRep]
            exact fin _ _ (I.tok _)
  · obtain ⟨xs, e, h1, h2, h3, q⟩ := h
    exact op_rep pins s σ H _ _ v u Q I rx ry ⟨_, _, xs, rfl, rfl, A.lst e, h1, h2, h3, fun p np => i _ _ _ (q p (A.fresh np)) (A.newL np)⟩
  · exact op_fdivW pins s σ H _ _ v u Q I rx ry ⟨_, _, rfl, rfl, h.1, i _ _ _ h.2 A⟩
  · exact op_mod pins s σ H _ _ v u Q I rx ry ⟨_, _, rfl, rfl, h.1, i _ _ _ h.2 A⟩
  · exact op_pow pins s σ H _ _ v u Q I rx ry ⟨_, _, rfl, rfl, h.1, i _ _ _ h.2 A⟩
  · exact h.elim
end
end SW
end

section
set_option Elab.async false
set_option linter.all false
set_option maxRecDepth 100000
set_option maxHeartbeats 4000000
/-! == of lists of unlike lengths. -/
namespace PySem.SeqAt
open AutoSeq1 (wpAny_loadPart')
open MeetsSeq MeetsSeq2 MeetsSeq3 SeqRoads2
section
variable {prog : Program} {w : World}
theorem own_list_neIn (l b : Addr) (items items2 : Array Value) (n n2 : Nat) (dd dd2 : Option Addr) (sl sl2 : Array (Option Value)) (hsz : items.size ≠ items2.size) :
    MeetsIn prog w (Builtin.«list.__eq__» ⟨[.ref l, .ref b], []⟩)
      (fun A R s => s.heap.get? l = some { cls := .type "list", dict := dd, data := .seq items n, slots := sl } ∧ s.heap.get? b = some { cls := .type "list", dict := dd2, data := .seq items2 n2, slots := sl2 } ∧
        R (.ok (.ret (.bool false))) s) := by
  intro A R s h
  obtain ⟨hp, g, d, tk, os⟩ := s; obtain ⟨hl, hb, h⟩ := h
  have f3 := AutoSeq1.sub_list_list
  have hne : (items.size != items2.size) = true := by simpa using hsz
  wp_walk using wpAny_loadPart' hl, wpAny_loadPart' hb
  first | exact h | (simpa using h) | skip
theorem own_lists_ne {A : Around} {s : Shared} {l b : Addr} {items items2 : Array Value} (hl : s.heap.IsList l items) (hb : s.heap.IsList b items2) (hsz : items.size ≠ items2.size) (hu : A.units < cLine)
    (E Q : Value → Shared → Prop) (h : Q (.bool false) s) : wpAny (model prog w) A (richCompare .Eq (.ref l) (.ref b)) Q E s := by
  obtain ⟨⟨cls, dd, data, sl⟩, ho, hc, n, hd⟩ := id hl
  obtain ⟨⟨cls2, dd2, data2, sl2⟩, ho2, hc2, n2, hd2⟩ := id hb
  simp only at hc hd hc2 hd2
  subst hc hd hc2 hd2
  have ta : s.TypeIs (.ref l) "list" := ⟨_, ho, rfl⟩
  have tb : s.TypeIs (.ref b) "list" := ⟨_, ho2, rfl⟩
  exact wpAny_richCompare_same_room (op := .Eq) ta tb F.slot_list_eq (call_meetsIn F.slot_list_eq ta F.entry_list_eq (F.args_list_eq_2 _ _) (own_list_neIn l b items items2 n n2 dd dd2 sl sl2 hsz)
    ⟨ho, ho2, show Value.bool false ≠ Value.notImplemented ∧ Q (.bool false) s from ⟨(fun x => nomatch x), h⟩⟩) hu
end
end PySem.SeqAt
end

section
set_option Elab.async false
set_option linter.all false
set_option maxRecDepth 100000
set_option maxHeartbeats 4000000
namespace SW
open PySem PySem.Spec PyProof.Rows L2
section
variable {P : Prm} {X : Cx}
def cmpL (P : Prm) (op : CmpOp) (x y : V) : Hp → VK → Prop := fun H Q => Lo P (fun g Q' => cmpV P.kl op x y g fun k g3 => Q' (.bl k) g3) H Q
theorem op_eqG (hK : X.K = P.K) (hu : X.A.units + 64 < cLine) {f : Bool → Bool} {op : CmpOp} (h1 : ∀ (r : R2), r = (if f true = true then rEq else rNe) → OpR X (compareOp op) r)
    (h2 : ∀ (r : R2), r = (if f true = true then rEqD X.K else rNeD X.K) → OpR X (compareOp op) r) (hf : f = id ∨ f = not) :
    OpR X (compareOp op) (fun x y H Q => Lo P (fun g Q' => eqV' P.kl x y g fun k g3 => Q' (.bl (f k)) g3) H Q) := by
  intro pins s σ H x y v u Q I rx ry h
  obtain ⟨g, Q', A, h, i⟩ := h
  unfold eqV' at h
  rcases hf with rfl | rfl
  · split at h
    · obtain ⟨d, e, p1, p2, s1, s2, q⟩ := h
      have z1 := A.dg p1
      have z2 := A.dg p2
      rw [← hK] at z1 z2
      exact h2 (rEqD X.K) rfl pins s σ H _ _ v u Q I rx ry ⟨d, e, z1, z2, s1, s2, i _ _ _ q A⟩
    · exact h1 rEq rfl pins s σ H _ _ v u Q I rx ry ⟨h.1, i _ _ _ h.2 A⟩
  · split at h
    · obtain ⟨d, e, p1, p2, s1, s2, q⟩ := h
      have z1 := A.dg p1
      have z2 := A.dg p2
      rw [← hK] at z1 z2
      exact h2 (rNeD X.K) rfl pins s σ H _ _ v u Q I rx ry ⟨d, e, z1, z2, s1, s2, i _ _ _ q A⟩
    · exact h1 rNe rfl pins s σ H _ _ v u Q I rx ry ⟨h.1, i _ _ _ h.2 A⟩
theorem inV_some {xs : List V} {x : V} {neg : Bool} : (if neg then !L2.inV x xs else L2.inV x xs) = (if neg = true then !L2.inV x xs else L2.inV x xs) := rfl
theorem op_cmp (hK : X.K = P.K) (hu : X.A.units + 64 < cLine) {op : CmpOp} : OpR X (compareOp op) (cmpL P op) := by
  have hu1 : X.A.units + 1 < cLine := by omega
  cases op with
  | Eq =>
    intro pins s σ H x y v u Q I rx ry h
    obtain ⟨g, Q', A, h, i⟩ := h
    rcases h with h | ⟨a, b, xs, ys, rfl, rfl, h1, h2, h3, q⟩
    · exact op_eqG hK hu (f := id) (fun r e => by rw [e]; exact op_eq) (fun r e => by rw [e]; exact op_eqD hu) (.inl rfl) pins s σ H x y v u Q I rx ry ⟨g, Q', A, h, i⟩
    · cases rx; cases ry
      have s1 := A.ls (.inl h1)
      have s2 := A.ls (.inl h2)
      rw [← hK] at s1 s2
      obtain ⟨its, r1, p1, z1⟩ := I.list s1
      obtain ⟨its2, r2, p2, z2⟩ := I.list s2
      refine PySem.SeqAt.own_lists_ne p1.isList p2.isList ?_ (by omega) _ _ ⟨.bl _, H, I, rfl, i _ _ _ q A⟩
      have e1 := r1.length
      have e2 := r2.length
      simp only [List.size_toArray]
      omega
  | NotEq => exact op_eqG hK hu (f := not) (fun r e => by rw [e]; exact op_ne) (fun r e => by rw [e]; exact op_neD hu) (.inr rfl)
  | Lt =>
    intro pins s σ H x y v u Q I rx ry h
    obtain ⟨g, Q', A, ⟨a, b, rfl, rfl, q⟩, i⟩ := h
    exact op_lt pins s σ H _ _ v u Q I rx ry ⟨_, _, rfl, rfl, i _ _ _ q A⟩
  | LtE =>
    intro pins s σ H x y v u Q I rx ry h
    obtain ⟨g, Q', A, h, i⟩ := h
    unfold cmpV at h
    simp only at h
    split at h
    · exact op_le pins s σ H _ _ v u Q I rx ry ⟨_, _, rfl, rfl, i _ _ _ h A⟩
    · exact op_le_str pins s σ H _ _ v u Q I rx ry ⟨_, _, rfl, rfl, i _ _ _ h A⟩
    · exact h.elim
  | Gt =>
    intro pins s σ H x y v u Q I rx ry h
    obtain ⟨g, Q', A, ⟨a, b, rfl, rfl, q⟩, i⟩ := h
    exact op_gt pins s σ H _ _ v u Q I rx ry ⟨_, _, rfl, rfl, i _ _ _ q A⟩
  | GtE =>
    intro pins s σ H x y v u Q I rx ry h
    obtain ⟨g, Q', A, ⟨a, b, rfl, rfl, q⟩, i⟩ := h
    exact op_ge pins s σ H _ _ v u Q I rx ry ⟨_, _, rfl, rfl, i _ _ _ q A⟩
  | Is =>
    intro pins s σ H x y v u Q I rx ry h
    obtain ⟨g, Q', A, h, i⟩ := h
    rcases h with ⟨rfl, q⟩ | ⟨a, b, rfl, rfl, q⟩
    · exact op_isN pins s σ H _ _ v u Q I rx ry ⟨rfl, i _ _ _ q A⟩
    · exact op_is_bl pins s σ H _ _ v u Q I rx ry ⟨_, _, rfl, rfl, i _ _ _ q A⟩
  | IsNot =>
    intro pins s σ H x y v u Q I rx ry h
    obtain ⟨g, Q', A, h, i⟩ := h
    rcases h with ⟨rfl, q⟩ | ⟨a, b, rfl, rfl, q⟩
    · exact op_notN pins s σ H _ _ v u Q I rx ry ⟨rfl, i _ _ _ q A⟩
    · exact op_isnot_bl pins s σ H _ _ v u Q I rx ry ⟨_, _, rfl, rfl, i _ _ _ q A⟩
  | In =>
    intro pins s σ H x y v u Q I rx ry h
    obtain ⟨g, Q', A, h, i⟩ := h
    unfold cmpV inV at h
    simp only at h
    split at h
    · obtain ⟨c, rfl, q⟩ := h
      exact op_in_sign pins s σ H _ _ v u Q I rx ry ⟨_, _, rfl, rfl, i _ _ _ q A⟩
    · rcases h with ⟨o, d, q⟩ | ⟨xs, l, f1, f2, q⟩
      · cases ry
        exact d_in hu1 I (A.dget d) rx fun s' I' => ⟨.bl _, H, I', rfl, i _ _ _ q A⟩
      · have z := A.ls l
        rw [← hK] at z
        exact op_in_seq pins s σ H _ _ v u Q I rx ry ⟨_, xs, rfl, .inl z, f1, f2, i _ _ _ q A⟩
    · exact h.elim
  | NotIn =>
    intro pins s σ H x y v u Q I rx ry h
    obtain ⟨g, Q', A, h, i⟩ := h
    unfold cmpV inV at h
    simp only at h
    split at h
    · obtain ⟨c, rfl, q⟩ := h
      exact op_notIn_sign pins s σ H _ _ v u Q I rx ry ⟨_, _, rfl, rfl, i _ _ _ q A⟩
    · rcases h with ⟨o, d, q⟩ | ⟨xs, l, f1, f2, q⟩
      · cases ry
        exact d_notIn hu1 I (A.dget d) rx fun s' I' => ⟨.bl _, H, I', rfl, i _ _ _ q A⟩
      · have z := A.ls l
        rw [← hK] at z
        exact op_notIn_seq pins s σ H _ _ v u Q I rx ry ⟨_, xs, rfl, .inl z, f1, f2, i _ _ _ q A⟩
    · exact h.elim

/-- a slice -/
theorem sl_G (hK : X.K = P.K) : SlR X (fun x lo hi H Q => Lo P (slV P.kl x lo hi) H Q) := by
  intro pins s σ H x v vl vu lo hi sl Q I rx hs pl pu h
  obtain ⟨g, Q', A, h, i⟩ := h
  unfold slV at h
  split at h
  · exact sl_str pins s σ H _ v vl vu lo hi sl Q I rx hs pl pu ⟨_, rfl, h.1, i _ _ _ h.2 A⟩
  · obtain ⟨xs, l, q⟩ := h
    have z := A.ls l
    rw [← hK] at z
    exact sl_list pins s σ H _ v vl vu lo hi sl Q I rx hs pl pu ⟨_, xs, rfl, z, fun p np => i _ _ _ (q p (A.fresh np)) (A.newL np)⟩
  · exact h.elim
/-- the truth of a value -/
theorem tru_G (hK : X.K = P.K) : TruR X (fun x H Q => Lo P (truV P.kl x) H Q) := by
  intro pins s σ H x v Q I rx h
  obtain ⟨g, Q', A, h, i⟩ := h
  unfold truV at h
  split at h
  · exact tru_ok pins s σ H _ v Q I rx ⟨_, rfl, i _ _ _ h A⟩
  · exact tru_ok pins s σ H _ v Q I rx ⟨_, ⟨h.1, rfl⟩, i _ _ _ h.2 A⟩
  · exact h.elim

/-! ### built-in functions, by values -/
abbrev biL (P : Prm) (f : Bi) : List V → Hp → VK → Prop := fun xs H Q => Lo P (biV P.kl f xs) H Q
theorem bi_len (hK : X.K = P.K) : CallR X (.builtin "len") (biL P .len) := by
  intro pins s σ H xs us Q I r h
  obtain ⟨g, Q', A, h, i⟩ := h
  unfold biV at h
  simp only at h
  split at h
  · exact call_len pins s σ H _ us Q I r ⟨_, _, rfl, ⟨h.1, rfl⟩, i _ _ _ h.2 A⟩
  · rcases h with ⟨ys, l, q⟩ | ⟨kvs, e, q⟩
    · rcases l with l | l
      · have z := A.ls l
        rw [← hK] at z
        exact call_len pins s σ H _ us Q I r ⟨_, _, rfl, .inl ⟨ys, z, rfl⟩, i _ _ _ q A⟩
      · have z := A.tp l
        rw [← hK] at z
        exact call_len pins s σ H _ us Q I r ⟨_, _, rfl, .inr ⟨ys, z, rfl⟩, i _ _ _ q A⟩
    · obtain ⟨u, rfl, ru⟩ := vals1 r
      cases ru
      exact d_len I (.inl (A.dK e)) fun t s' I' => ⟨.int _, H, I', ⟨t, rfl⟩, i _ _ _ q A⟩
  · exact h.elim
theorem bi_max (hK : X.K = P.K) (hc : X.calm = true) : CallR X (.builtin "max") (biL P .max) := by
  intro pins s σ H xs us Q I r h
  obtain ⟨g, Q', A, h, i⟩ := h
  unfold biV at h
  simp only at h
  split at h
  · exact call_max2 hc pins s σ H _ us Q I r ⟨_, _, rfl, i _ _ _ h A⟩
  · obtain ⟨ns, l, h0, q⟩ := h
    have z := A.ls l
    rw [← hK] at z
    exact cr_max hc pins s σ H _ us Q I r ⟨_, ns, rfl, z, h0, fun m m1 m2 => i _ _ _ (q m m1 m2) A⟩
  · exact h.elim
theorem bi_min (hK : X.K = P.K) (hc : X.calm = true) : CallR X (.builtin "min") (biL P .min) := by
  intro pins s σ H xs us Q I r h
  obtain ⟨g, Q', A, h, i⟩ := h
  unfold biV at h
  simp only at h
  split at h
  · exact call_min2 hc pins s σ H _ us Q I r ⟨_, _, rfl, i _ _ _ h A⟩
  · obtain ⟨ns, l, h0, q⟩ := h
    have z := A.ls l
    rw [← hK] at z
    exact cr_min hc pins s σ H _ us Q I r ⟨_, ns, rfl, z, h0, fun m m1 m2 => i _ _ _ (q m m1 m2) A⟩
  · exact h.elim
theorem bi_abs : CallR X (.builtin "abs") (biL P .abs) := by
  intro pins s σ H xs us Q I r h
  obtain ⟨g, Q', A, h, i⟩ := h
  unfold biV at h
  simp only at h
  split at h
  · exact call_abs pins s σ H _ us Q I r ⟨_, rfl, i _ _ _ h A⟩
  · exact h.elim
theorem bi_sum (hK : X.K = P.K) (hc : X.calm = true) : CallR X (.builtin "sum") (biL P .sum) := by
  intro pins s σ H xs us Q I r h
  obtain ⟨g, Q', A, ⟨a, ns, rfl, l, q⟩, i⟩ := h
  have z := A.ls l
  rw [← hK] at z
  exact cr_sum hc pins s σ H _ us Q I r ⟨_, ns, rfl, z, i _ _ _ q A⟩
theorem bi_all (hK : X.K = P.K) (hc : X.calm = true) : CallR X (.builtin "all") (biL P .all) := by
  intro pins s σ H xs us Q I r h
  obtain ⟨g, Q', A, ⟨a, ns, rfl, l, q⟩, i⟩ := h
  have z := A.ls l
  rw [← hK] at z
  exact cr_all hc pins s σ H _ us Q I r ⟨_, ns, rfl, z, i _ _ _ q A⟩
theorem bi_int : CallR X (.type "int") (biL P .int) := by
  intro pins s σ H xs us Q I r h
  obtain ⟨g, Q', A, h, i⟩ := h
  unfold biV at h
  simp only at h
  split at h
  · exact call_int1 pins s σ H _ us Q I r (.inr ⟨_, rfl, i _ _ _ h A⟩)
  · obtain ⟨n, e, hl, q⟩ := h
    exact call_int_str pins s σ H _ us Q I r ⟨_, n, rfl, e, hl, i _ _ _ q A⟩
  · exact h.elim
theorem bi_str : CallR X (.type "str") (biL P .str) := by
  intro pins s σ H xs us Q I r h
  obtain ⟨g, Q', A, h, i⟩ := h
  unfold biV at h
  simp only at h
  split at h
  · exact call_str_int pins s σ H _ us Q I r ⟨_, rfl, h.1, i _ _ _ h.2 A⟩
  · exact h.elim
theorem bi_list (hK : X.K = P.K) : CallR X (.type "list") (biL P .list) := by
  intro pins s σ H xs us Q I r h
  obtain ⟨g, Q', A, ⟨a, ys, rfl, l, q⟩, i⟩ := h
  refine call_list_of pins s σ H _ us Q I r ⟨_, ys, rfl, ?_, fun p np => i _ _ _ (q p (A.fresh np)) (A.newL np)⟩
  rw [hK]
  rcases l with l | l
  · exact .inl (A.ls l)
  · exact .inr (A.tp l)
theorem bi_dict : CallR X (.type "dict") (biL P .dict) := by
  intro pins s σ H xs us Q I r h
  obtain ⟨g, Q', A, ⟨a, kvs, rfl, e, q⟩, i⟩ := h
  exact call_dictD pins s σ H _ us Q I r ⟨_, kvs, rfl, .inl (A.dK e), fun p np => i _ _ _ (q p (A.fresh np)) (A.newK np)⟩
/-- isinstance(x, T): the value and the built-in class -/
def isL (P : Prm) (f : Bi) (T : String) : List V → Hp → VK → Prop := fun xs H Q => ∃ x, xs = [x, .ty T] ∧ Lo P (biV P.kl f [x]) H Q
theorem bi_isi (hK : X.K = P.K) {f : Bi} {T : String} (hf : (f, T) ∈ [(Bi.isint, "int"), (Bi.isbool, "bool"), (Bi.isstr, "str"), (Bi.istuple, "tuple"), (Bi.islist, "list")]) : CallR X (.builtin "isinstance") (isL P f T) := by
  intro pins s σ H xs us Q I r h
  obtain ⟨x, rfl, g, Q', A, h, i⟩ := h
  have one : ∀ (t : String) (b : Bool), TyX X.K H x (.type t) → kitB t T = some b → Q (.bl b) H → wpAny (model X.prog X.w) X.A (call (.builtin "isinstance") us) (EP X pins σ Q) X.xe s := fun t b h1 h2 q =>
    call_isi pins s σ H _ us Q I r ⟨x, .ty T, .type t, .type T, b, rfl, .ty T, h1, kit_ty h2, q⟩
  simp only [List.mem_cons, Prod.mk.injEq, List.not_mem_nil, or_false] at hf
  rcases hf with ⟨rfl, rfl⟩ | ⟨rfl, rfl⟩ | ⟨rfl, rfl⟩ | ⟨rfl, rfl⟩ | ⟨rfl, rfl⟩ <;> unfold biV at h <;> simp only at h <;> split at h <;> rename_i hx <;> first
    | exact h.elim
    | (cases hx
       first
         | exact one "int" _ (.base (.int _)) (by decide +kernel) (i _ _ _ h A)
         | exact one "bool" _ (.base (.bl _)) (by decide +kernel) (i _ _ _ h A)
         | exact one "str" _ (.base (.str _)) (by decide +kernel) (i _ _ _ h A)
         | exact one "NoneType" _ (.base .non) (by decide +kernel) (i _ _ _ h A)
         | exact one "tuple" _ (.base (.tup (A.tup h.choose_spec.1))) (by decide +kernel) (i _ _ _ h.choose_spec.2 A)
         | exact one "list" _ (.base (.lst (A.lst h.choose_spec.1))) (by decide +kernel) (i _ _ _ h.choose_spec.2 A))
end
end SW
end

section
set_option Elab.async false
set_option linter.all false
set_option maxRecDepth 100000
set_option maxHeartbeats 4000000
namespace SW
open PySem PySem.Spec PyProof.Rows L2
abbrev RE (P : Prm) (c : Cal) (t : T) : TE := fun σ H Q => Lo P (fun g Q' => t c σ g Q') H Q
abbrev RB (P : Prm) (c : Cal) (t : TB) : TT := fun σ H Q => Lo P (fun g Q' => t c σ g Q') H Q
abbrev RL (P : Prm) (c : Cal) (t : TLs) : TA := fun σ H Q => Lo P (fun g Q' => t c σ g Q') H Q
section
variable {P : Prm} {X : Cx} {c : Cal} {e a b o i : Expr} {es : List Expr} {ta tb te : T} {tl : TLs} {pos : Pos}
theorem g_var {i : Nat} {x : Str} (hN : X.N[i]? = some x) (hv : Vis X.env.scope x) (hd : (x == ("__debug__" : Str)) = false) (hcd : (x == ("__classdict__" : Str)) = false) : PE X (.Name x pos) (RE P c (eV i)) :=
  PE.imp (pe_var hN hv hd hcd) fun σ H Q ⟨g, Q', A, ⟨v, e, q⟩, i⟩ => ⟨v, e, i _ _ _ q A⟩
theorem g_c {v : V} (h : PE X e (tC v)) : PE X e (RE P c (eC v)) := PE.imp h fun σ H Q ⟨g, Q', A, q, i⟩ => i _ _ _ q A
theorem op_bin' (hK : X.K = P.K) (hk : c.kl = P.kl) {op : Operator} : OpR X (binaryOp op) (fun x y H Q => Lo P (binV c.kl op x y) H Q) := by
  rw [hk]
  exact op_bin hK
def cmpC (P : Prm) (c : Cal) (op : CmpOp) (x y : V) : Hp → VK → Prop := fun H Q => Lo P (fun g Q' => cmpV c.kl op x y g fun k g3 => Q' (.bl k) g3) H Q
theorem op_cmp' (hK : X.K = P.K) (hk : c.kl = P.kl) (hu : X.A.units + 64 < cLine) {op : CmpOp} : OpR X (compareOp op) (cmpC P c op) := by
  have e : cmpC P c op = cmpL P op := by
    funext x y H Q
    unfold cmpC cmpL
    rw [hk]
  rw [e]
  exact op_cmp hK hu
theorem g_bin (hK : X.K = P.K) (hk : c.kl = P.kl) {op : Operator} (ha : PE X a (RE P c ta)) (hb : PE X b (RE P c tb)) : PE X (.BinOp a op b pos) (RE P c (eBin op ta tb)) := by
  refine PE.imp (pe_op (op_bin' hK hk) ha hb) fun σ H Q ⟨g, Q', A, h, i⟩ => ?_
  exact ⟨g, _, A, h, fun x g1 H1 q A1 => ⟨g1, _, A1, q, fun y g2 H2 q2 A2 => ⟨g2, Q', A2, q2, i⟩⟩⟩
theorem g_neg (ha : PE X a (RE P c ta)) : PE X (.UnaryOp .USub a pos) (RE P c (eNeg ta)) := by
  refine PE.imp (pe_un un_neg ha) fun σ H Q ⟨g, Q', A, h, i⟩ => ?_
  exact ⟨g, _, A, h, fun x g1 H1 ⟨j, e, q⟩ A1 => ⟨j, e, i _ _ _ q A1⟩⟩
theorem g_cmp (hK : X.K = P.K) (hk : c.kl = P.kl) (hu : X.A.units + 64 < cLine) {op : CmpOp} (ha : PE X a (RE P c ta)) (hb : PE X b (RE P c tb)) (hm : behindInMarks op b = false) : PE X (.Compare a [op] [b] pos) (RE P c (eCmp op ta tb)) :=
  PE.imp (pe_cmpR (op_cmp' hK hk hu) ha hb hm) fun σ H Q ⟨g, Q', A, h, i⟩ => ⟨g, _, A, h, fun x g1 H1 q A1 => ⟨g1, _, A1, q, fun y g2 H2 q2 A2 => ⟨g2, Q', A2, q2, i⟩⟩⟩
theorem gt_cmp (hK : X.K = P.K) (hk : c.kl = P.kl) (hu : X.A.units + 64 < cLine) {op : CmpOp} (ha : PE X a (RE P c ta)) (hb : PE X b (RE P c tb)) (hm : behindInMarks op b = false) : PT X (.Compare a [op] [b] pos) (RB P c (tBl (eCmp op ta tb))) :=
  PT.imp (pt_cmpR (op_cmp' hK hk hu) ha hb hm) fun σ H Q ⟨g, Q', A, h, i⟩ => ⟨g, _, A, h, fun x g1 H1 q A1 => ⟨g1, _, A1, q, fun y g2 H2 q2 A2 => ⟨g2, fun z g3 => ∃ k, z = .bl k ∧ Q' k g3, A2, q2, fun z g3 H3 ⟨k, e, q3⟩ A3 => ⟨k, e, i _ _ _ q3 A3⟩⟩⟩⟩
/-! chains -/
inductive Chn (X : Cx) (P : Prm) (c : Cal) : List CmpOp → List Expr → List (CmpOp × T) → Prop
  | one {op b tb} : PE X b (RE P c tb) → Chn X P c [op] [b] [(op, tb)]
  | more {op b tb op' ops e es r} : PE X b (RE P c tb) → Chn X P c (op' :: ops) (e :: es) r → Chn X P c (op :: op' :: ops) (b :: e :: es) ((op, tb) :: r)
theorem Chn.ne {ops : List CmpOp} {es : List Expr} {r : List (CmpOp × T)} (h : Chn X P c ops es r) : r ≠ [] := by cases h <;> simp
theorem cmp_bl {kl : Addr → List V → Prop} {op : CmpOp} {x y : V} {g : G} {K : Bool → G → Prop} (h : cmpV kl op x y g K) : cmpV kl op x y g fun k g3 => ∃ k', V.bl k = .bl k' ∧ K k' g3 := by
  have e : (fun (k : Bool) (g3 : G) => ∃ k', V.bl k = .bl k' ∧ K k' g3) = K := by
    funext k g3
    refine propext ⟨?_, fun z => ⟨k, rfl, z⟩⟩
    rintro ⟨k', e, z⟩
    cases e
    exact z
  rw [e]
  exact h
theorem chain_ok (hK : X.K = P.K) (hk : c.kl = P.kl) (hu : X.A.units + 64 < cLine) {ops : List CmpOp} {es : List Expr} {r : List (CmpOp × T)} (h : Chn X P c ops es r) :
    ∀ (x : V) (v : Value) (pins : List (Addr × Obj)) (s : Shared) (σ : L2.St) (H : Hp) (Q : VK), Inv X pins σ H s → RelV x v → Lo P (fun g Q' => chn r x c σ g Q') H Q →
      wpAny (model X.prog X.w) X.A (compareChain pos v ops (evalEach es X.env)) (EP X pins σ Q) X.xe s := by
  induction h with
  | one hb =>
    intro x v pins s σ H Q I rx q
    obtain ⟨g, Q', A, h, i⟩ := q
    refine chain_last (thn (hb.run pins s σ H (fun y H1 => cmpC P c _ x y H1 Q) I ⟨g, _, A, h, fun y g2 H2 q2 A2 => ⟨g2, Q', A2, q2, i⟩⟩) fun u s1 ⟨y, H1, I1, ry, q1⟩ => ?_)
    exact op_cmp' hK hk hu pins s1 σ H1 x y v u Q I1 rx ry q1
  | @more op b tb op' ops e es r hb hr ih =>
    intro x v pins s σ H Q I rx q
    obtain ⟨p, r', rfl⟩ : ∃ p r', r = p :: r' := by
      cases r with
      | nil => exact absurd rfl hr.ne
      | cons p r' => exact ⟨p, r', rfl⟩
    obtain ⟨g, Q', A, h, i⟩ := q
    refine chain_link (thn (hb.run pins s σ H (fun y H1 => cmpC P c op x y H1 fun z H2 => ∃ k, z = .bl k ∧ Lo P (fun g Q' => if k = true then chn (p :: r') y c σ g Q' else Q' (.bl false) g) H2 Q) I
      ⟨g, _, A, h, fun y g2 H2 q2 A2 => ?_⟩) fun u s1 ⟨y, H1, I1, ry, q1⟩ => ?_)
    · exact ⟨g2, fun z g3 => ∃ k, z = .bl k ∧ if k = true then chn (p :: r') y c σ g3 Q' else Q' (.bl false) g3, A2, cmp_bl q2, fun z g3 H3 ⟨k, e, q3⟩ A3 => ⟨k, e, g3, Q', A3, q3, i⟩⟩
    refine thn (op_cmp' hK hk hu pins s1 σ H1 x y v u _ I1 rx ry q1) fun d s3 ⟨z, H3, I3, r3, k, e, q3⟩ => ?_
    subst e
    cases r3
    refine wpAny_truthy_bool ?_
    cases k with
    | false =>
      obtain ⟨g, Q', A, h, i⟩ := q3
      exact ite_ff ⟨.bl false, H3, I3, rfl, i _ _ _ h A⟩
    | true => exact ite_tt (ih y u pins s3 σ H3 Q I3 ry q3)
theorem testChain_ok (hK : X.K = P.K) (hk : c.kl = P.kl) (hu : X.A.units + 64 < cLine) {ops : List CmpOp} {es : List Expr} {r : List (CmpOp × T)} (h : Chn X P c ops es r) :
    ∀ (x : V) (v : Value) (pins : List (Addr × Obj)) (s : Shared) (σ : L2.St) (H : Hp) (Q : Bool → Hp → Prop), Inv X pins σ H s → RelV x v → Lo P (fun g Q' => chn r x c σ g Q') H (fun z H' => ∃ k, z = .bl k ∧ Q k H') →
      wpAny (model X.prog X.w) X.A (testChain pos v ops (evalEach es X.env)) (TP X pins σ Q) X.xe s := by
  induction h with
  | one hb =>
    intro x v pins s σ H Q I rx q
    obtain ⟨g, Q', A, h, i⟩ := q
    refine test_last (thn (hb.run pins s σ H (fun y H1 => cmpC P c _ x y H1 fun z H' => ∃ k, z = .bl k ∧ Q k H') I ⟨g, _, A, h, fun y g2 H2 q2 A2 => ⟨g2, Q', A2, q2, i⟩⟩) fun u s1 ⟨y, H1, I1, ry, q1⟩ => ?_)
    refine thn (op_cmp' hK hk hu pins s1 σ H1 x y v u _ I1 rx ry q1) fun d s3 ⟨z, H3, I3, r3, k, e, q3⟩ => ?_
    subst e
    cases r3
    exact wpAny_truthy_bool ⟨H3, I3, q3⟩
  | @more op b tb op' ops e es r hb hr ih =>
    intro x v pins s σ H Q I rx q
    obtain ⟨p, r', rfl⟩ : ∃ p r', r = p :: r' := by
      cases r with
      | nil => exact absurd rfl hr.ne
      | cons p r' => exact ⟨p, r', rfl⟩
    obtain ⟨g, Q', A, h, i⟩ := q
    refine test_link (thn (hb.run pins s σ H (fun y H1 => cmpC P c op x y H1 fun z H2 => ∃ k, z = .bl k ∧ Lo P (fun g Q' => if k = true then chn (p :: r') y c σ g Q' else Q' (.bl false) g) H2 (fun z H' => ∃ k, z = .bl k ∧ Q k H')) I
      ⟨g, _, A, h, fun y g2 H2 q2 A2 => ?_⟩) fun u s1 ⟨y, H1, I1, ry, q1⟩ => ?_)
    · exact ⟨g2, fun z g3 => ∃ k, z = .bl k ∧ if k = true then chn (p :: r') y c σ g3 Q' else Q' (.bl false) g3, A2, cmp_bl q2, fun z g3 H3 ⟨k, e, q3⟩ A3 => ⟨k, e, g3, Q', A3, q3, i⟩⟩
    refine thn (op_cmp' hK hk hu pins s1 σ H1 x y v u _ I1 rx ry q1) fun d s3 ⟨z, H3, I3, r3, k, e, q3⟩ => ?_
    subst e
    cases r3
    refine wpAny_truthy_bool ?_
    cases k with
    | false =>
      obtain ⟨g, Q', A, h, i⟩ := q3
      obtain ⟨k, e, q4⟩ := i _ _ _ h A
      cases e
      exact ite_ff ⟨H3, I3, q4⟩
    | true => exact ite_tt (ih y u pins s3 σ H3 Q I3 ry q3)
theorem g_chn (hK : X.K = P.K) (hk : c.kl = P.kl) (hu : X.A.units + 64 < cLine) {op op' : CmpOp} {ops : List CmpOp} {b b' : Expr} {es : List Expr} {r : List (CmpOp × T)} (ha : PE X a (RE P c ta)) (h : Chn X P c (op :: op' :: ops) (b :: b' :: es) r) (hm : lastMarks (op :: op' :: ops) (b :: b' :: es) = false) :
    PE X (.Compare a (op :: op' :: ops) (b :: b' :: es) pos) (RE P c (eChn ta r)) := by
  refine ⟨fun pins s σ H Q I ⟨g, Q', A, h', i⟩ => ?_⟩
  refine Compare_chain (thn (ha.run pins s σ H (fun x H1 => Lo P (fun g Q' => chn r x c σ g Q') H1 Q) I ⟨g, _, A, h', fun x g1 H1 q A1 => ⟨g1, Q', A1, q, i⟩⟩) fun v s1 ⟨x, H1, I1, r1, q1⟩ => ?_) hm
  exact chain_ok hK hk hu h x v pins s1 σ H1 Q I1 r1 q1
theorem gt_chn (hK : X.K = P.K) (hk : c.kl = P.kl) (hu : X.A.units + 64 < cLine) {op op' : CmpOp} {ops : List CmpOp} {b b' : Expr} {es : List Expr} {r : List (CmpOp × T)} (ha : PE X a (RE P c ta)) (h : Chn X P c (op :: op' :: ops) (b :: b' :: es) r) (hm : lastMarks (op :: op' :: ops) (b :: b' :: es) = false) :
    PT X (.Compare a (op :: op' :: ops) (b :: b' :: es) pos) (RB P c (tBl (eChn ta r))) := by
  refine ⟨fun pins s σ H Q I ⟨g, Q', A, h', i⟩ => ?_⟩
  refine isTrue_chain (thn (ha.run pins s σ H (fun x H1 => Lo P (fun g Q' => chn r x c σ g Q') H1 (fun z H' => ∃ k, z = .bl k ∧ Q k H')) I ⟨g, _, A, h', fun x g1 H1 q A1 => ⟨g1, _, A1, q, fun z g2 H2 ⟨k, e, q2⟩ A2 => ⟨k, e, i _ _ _ q2 A2⟩⟩⟩) fun v s1 ⟨x, H1, I1, r1, q1⟩ => ?_) hm
  exact testChain_ok hK hk hu h x v pins s1 σ H1 Q I1 r1 q1
/-! and, or, not -/
theorem tru_G' (hK : X.K = P.K) (hk : c.kl = P.kl) : TruR X (fun x H Q => Lo P (truV c.kl x) H Q) := by
  rw [hk]
  exact tru_G hK
theorem g_and {rest : List Expr} (hK : X.K = P.K) (hk : c.kl = P.kl) (ha : PE X a (RE P c ta)) (hb : PE X (.BoolOp .And (b :: rest) pos) (RE P c tb)) : PE X (.BoolOp .And (a :: b :: rest) pos) (RE P c (eAnd ta tb)) := by
  refine ⟨fun pins s σ H Q I ⟨g, Q', A, h, i⟩ => ?_⟩
  refine BoolOp_and (thn (ha.run pins s σ H (fun x H1 => Lo P (truV c.kl x) H1 fun k H2 => Lo P (fun g Q' => if k = true then tb c σ g Q' else Q' x g) H2 Q) I ⟨g, _, A, h, fun x g1 H1 q A1 => ⟨g1, _, A1, q, fun k g2 H2 q2 A2 => ⟨g2, Q', A2, q2, i⟩⟩⟩) fun v s1 ⟨x, H1, I1, r1, q1⟩ => ?_)
  refine thn (tru_G' hK hk pins s1 σ H1 x v _ I1 r1 q1) fun d s2 ⟨H2, I2, q2⟩ => ?_
  cases d with
  | true => exact hb.run pins s2 σ H2 Q I2 q2
  | false =>
    obtain ⟨g, Q', A, h, i⟩ := q2
    exact ⟨x, H2, I2, r1, i _ _ _ h A⟩
theorem g_or {rest : List Expr} (hK : X.K = P.K) (hk : c.kl = P.kl) (ha : PE X a (RE P c ta)) (hb : PE X (.BoolOp .Or (b :: rest) pos) (RE P c tb)) : PE X (.BoolOp .Or (a :: b :: rest) pos) (RE P c (eOr ta tb)) := by
  refine ⟨fun pins s σ H Q I ⟨g, Q', A, h, i⟩ => ?_⟩
  refine BoolOp_or (thn (ha.run pins s σ H (fun x H1 => Lo P (truV c.kl x) H1 fun k H2 => Lo P (fun g Q' => if k = true then Q' x g else tb c σ g Q') H2 Q) I ⟨g, _, A, h, fun x g1 H1 q A1 => ⟨g1, _, A1, q, fun k g2 H2 q2 A2 => ⟨g2, Q', A2, q2, i⟩⟩⟩) fun v s1 ⟨x, H1, I1, r1, q1⟩ => ?_)
  refine thn (tru_G' hK hk pins s1 σ H1 x v _ I1 r1 q1) fun d s2 ⟨H2, I2, q2⟩ => ?_
  cases d with
  | false => exact hb.run pins s2 σ H2 Q I2 q2
  | true =>
    obtain ⟨g, Q', A, h, i⟩ := q2
    exact ⟨x, H2, I2, r1, i _ _ _ h A⟩
theorem g_not (hK : X.K = P.K) (hk : c.kl = P.kl) (ha : PE X a (RE P c ta)) : PE X (.UnaryOp .Not a pos) (RE P c (eNot ta)) := by
  refine ⟨fun pins s σ H Q I ⟨g, Q', A, h, i⟩ => ?_⟩
  refine UnaryOp_ (thn (ha.run pins s σ H (fun x H1 => Lo P (truV c.kl x) H1 fun k H2 => Q (.bl (!k)) H2) I ⟨g, _, A, h, fun x g1 H1 q A1 => ⟨g1, _, A1, q, fun k g2 H2 q2 A2 => i _ _ _ q2 A2⟩⟩) fun v s1 ⟨x, H1, I1, r1, q1⟩ => ?_)
  exact not_of (thn (tru_G' hK hk pins s1 σ H1 x v _ I1 r1 q1) fun d s2 ⟨H2, I2, q2⟩ => ⟨.bl (!d), H2, I2, rfl, q2⟩)
variable {tA tB : TB}
theorem gt_val (hK : X.K = P.K) (hk : c.kl = P.kl) (ha : PE X a (RE P c ta)) (he : ∀ whole, isTrue a X.env whole = (do let v ← whole; standAt a.pos; holding [v] (truthy v))) : PT X a (RB P c (tVal ta)) := by
  refine ⟨fun pins s σ H Q I ⟨g, Q', A, h, i⟩ => isTrue_plain (thn (ha.run pins s σ H (fun x H1 => Lo P (truV c.kl x) H1 Q) I ⟨g, _, A, h, fun x g1 H1 q A1 => ⟨g1, Q', A1, q, i⟩⟩) fun v s1 ⟨x, H1, I1, rx, q1⟩ => ?_) (he _)⟩
  exact tru_G' hK hk pins s1 σ H1 x v _ I1 rx q1
theorem gt_not (ha : PT X a (RB P c tA)) : PT X (.UnaryOp .Not a pos) (RB P c (tNot tA)) := by
  refine PT.imp (pt_not ha) fun σ H Q h => ?_
  obtain ⟨g, Q', A, h, i⟩ := h
  exact ⟨g, _, A, h, fun k g' H' q A' => i _ _ _ q A'⟩
theorem gw_and1 (ha : PT X a (RB P c tA)) : PW X (.BoolOp .And [a] pos) (RB P c tA) := pw_and1 ha
theorem gw_or1 (ha : PT X a (RB P c tA)) : PW X (.BoolOp .Or [a] pos) (RB P c tA) := pw_or1 ha
theorem PW.imp {t t' : TT} (h : PW X e t) (i : ∀ σ H Q, t' σ H Q → t σ H Q) : PW X e t' := ⟨fun w pins s σ H Q I q => h.run w pins s σ H Q I (i σ H Q q)⟩
theorem gw_and {rest : List Expr} (ha : PT X a (RB P c tA)) (hb : PW X (.BoolOp .And (b :: rest) pos) (RB P c tB)) : PW X (.BoolOp .And (a :: b :: rest) pos) (RB P c (tAnd tA tB)) := by
  refine PW.imp (pw_and ha hb) fun σ H Q ⟨g, Q', A, h, i⟩ => ?_
  refine ⟨g, _, A, h, fun k g1 H1 q A1 => ?_⟩
  cases k with
  | true => exact ⟨g1, Q', A1, q, i⟩
  | false => exact i _ _ _ q A1
theorem gw_or {rest : List Expr} (ha : PT X a (RB P c tA)) (hb : PW X (.BoolOp .Or (b :: rest) pos) (RB P c tB)) : PW X (.BoolOp .Or (a :: b :: rest) pos) (RB P c (tOr tA tB)) := by
  refine PW.imp (pw_or ha hb) fun σ H Q ⟨g, Q', A, h, i⟩ => ?_
  refine ⟨g, _, A, h, fun k g1 H1 q A1 => ?_⟩
  cases k with
  | false => exact ⟨g1, Q', A1, q, i⟩
  | true => exact i _ _ _ q A1
/-! lists of arguments, displays -/
theorem g_nil : PA X [] (RL P c lNil) := PA.imp pa_nil fun σ H Q ⟨g, Q', A, h, i⟩ => i _ _ _ h A
theorem g_cons (ha : PE X e (RE P c te)) (hr : PA X es (RL P c tl)) (hs : starEach (e :: es) X.env = (false, eval e X.env) :: starEach es X.env) : PA X (e :: es) (RL P c (lCons te tl)) := by
  refine PA.imp (pa_cons ha hr hs) fun σ H Q ⟨g, Q', A, h, i⟩ => ?_
  exact ⟨g, _, A, h, fun x g1 H1 q A1 => ⟨g1, _, A1, q, fun xs g2 H2 q2 A2 => i _ _ _ q2 A2⟩⟩
theorem g_tup {x1} (h : PA X es (RL P c tl)) : PE X (.Tuple es x1 pos) (RE P c (eTup tl)) := by
  refine PE.imp (pe_tup h) fun σ H Q ⟨g, Q', A, h, i⟩ => ?_
  exact ⟨g, _, A, h, fun xs g1 H1 q A1 => ⟨q.1, fun p np => i _ _ _ (q.2 p (A1.fresh np)) (A1.newU np)⟩⟩
theorem g_lst (h : PA X es (RL P c tl)) : PE X (.List es pos) (RE P c (eLst tl)) := by
  refine PE.imp (pe_lst h) fun σ H Q ⟨g, Q', A, h, i⟩ => ?_
  exact ⟨g, _, A, h, fun xs g1 H1 q A1 => ⟨q.1, fun p np => i _ _ _ (q.2 p (A1.fresh np)) (A1.newL np)⟩⟩
theorem PE.or {t t' : TE} (h : PE X e t) (h' : PE X e t') : PE X e (fun σ H Q => t σ H Q ∨ t' σ H Q) := ⟨fun pins s σ H Q I q => q.elim (h.run pins s σ H Q I) (h'.run pins s σ H Q I)⟩
theorem g_dict0 : PE X (.Dict [] [] pos) (RE P c eDict0) := by
  refine PE.imp (PE.or pe_dnewK pe_dnewT) fun σ H Q h => ?_
  obtain ⟨g, Q', A, h, i⟩ := h
  rcases h with h | h
  · exact .inl fun p np => i _ _ _ (h p (A.fresh np)) (A.newK np)
  · exact .inr fun p np => i _ _ _ (h p (A.fresh np)) (A.newT np)
def liftP (P : Prm) (c : Cal) (trs : List (T × T)) : List (TE × TE) := trs.map fun p => (RE P c p.1, RE P c p.2)
theorem lift_pairs {σ : L2.St} : ∀ {trs : List (T × T)} {g : G} {H : Hp} {Q' : List (V × V) → G → Prop} {Q : List (V × V) → Hp → Prop}, Ab P g H → dPairs trs c σ g Q' → (∀ ps g' H', Q' ps g' → Ab P g' H' → Q ps H') → tPairs (liftP P c trs) σ H Q
  | [], g, H, Q', Q, A, h, i => i _ _ _ h A
  | (tk, tv) :: r, g, H, Q', Q, A, h, i => ⟨g, _, A, h, fun x g1 H1 q A1 => ⟨g1, _, A1, q, fun y g2 H2 q2 A2 => lift_pairs A2 q2 fun ps g3 H3 q3 A3 => i _ _ _ q3 A3⟩⟩
theorem g_disp {keys : List (Option Expr)} {values : List Expr} {trs : List (T × T)} (h : PPs X pos keys values (liftP P c trs)) (hall : keys.all (·.isSome) = true) (hl : keys.length = values.length) (h0 : keys ≠ []) (h15 : keys.length ≤ 15) :
    PE X (.Dict keys values pos) (RE P c (eDisp trs)) := by
  refine PE.imp (pe_disp h hall hl h0 h15) fun σ H Q h => ?_
  obtain ⟨g, Q', A, h, i⟩ := h
  intro p np
  refine lift_pairs (A.newK np) (h p (A.fresh np)) fun ps g2 H2 q A2 => ?_
  obtain ⟨e, kvs, e1, e2, q⟩ := q
  exact ⟨A2.dK e, kvs, e1, e2, i _ _ _ q (A2.setK e)⟩
/-! subscripts -/
theorem ix_dict (hu : X.A.units + 1 < cLine) : IxR X (fun x y H Q => ∃ a v, x = .ref a ∧ DGet H a y (some v) ∧ Q v H) := by
  intro value slice pins s σ H x y v u Q I rx ry h hs
  obtain ⟨a, z, rfl, d, q⟩ := h
  cases rx
  unfold subscriptTail
  have hT := dict_typeIs I d
  refine wpAny_bind ?_
  rw [getitemInPython_of_ne hT.not_modules]
  refine wpAny_bind (wpAny_specialOf hT PySem.F.slot_dict_getitem.lookup ?_)
  have fin : wpAny (model X.prog X.w) X.A (subscripted slice false (.ref a) u) (fun r s₃ => wpAny (model X.prog X.w) X.A (letTemporaryGo value (.ref a) r >>= fun _ => pure r) (EP X pins σ Q) X.xe s₃) X.xe s := by
    rw [hs]
    exact wpAny_operating (wpAny_mono (d_getItem (Q := EP X pins σ Q) hu I d ry fun w' s3 I3 rw' => ⟨z, H, I3, rw', q⟩) (fun r s₃ h₃ => wpAny_bind (wpAny_letTemporaryGo (wpAny_pure h₃))) fun _ _ x => x)
  first
    | exact wpAny_pure (wpAny_bind fin)
    | exact wpAny_bind (wpAny_pure (wpAny_bind fin))
    | exact wpAny_bind fin
theorem g_ix (hK : X.K = P.K) (hk : c.kl = P.kl) (hu : X.A.units + 1 < cLine) (ha : PE X a (RE P c ta)) (hb : PE X b (RE P c tb)) (hs : PlainIx b) : PE X (.Subscript a b pos) (RE P c (eIx ta tb)) := by
  refine PE.imp (pe_ix (ix_seq.or (ix_dict hu)) ha hb hs) fun σ H Q ⟨g, Q', A, h, i4⟩ => ?_
  refine ⟨g, _, A, h, fun x g1 H1 q A1 => ⟨g1, _, A1, q, fun y g2 H2 h4 A4 => ?_⟩⟩
  unfold ixV at h4
  split at h4
  · obtain ⟨i, c, rfl, z, e, q⟩ := h4
    exact .inl (.inr (.inr ⟨_, i, c, rfl, rfl, z, e, i4 _ _ _ q A4⟩))
  · rcases h4 with ⟨xs, i, v, rfl, l | l, e, q⟩ | ⟨v, d, q⟩
    · rw [hk] at l
      have z := A4.ls l
      rw [← hK] at z
      exact .inl (.inl ⟨_, xs, i, v, rfl, rfl, z, e, i4 _ _ _ q A4⟩)
    · have z := A4.tp l
      rw [← hK] at z
      exact .inl (.inr (.inl ⟨_, xs, i, v, rfl, rfl, z, e, i4 _ _ _ q A4⟩))
    · exact .inr ⟨_, v, rfl, A4.dget d, i4 _ _ _ q A4⟩
  · exact h4.elim
abbrev RO (P : Prm) (c : Cal) (t : Cal → L2.St → G → (Option Int → G → Prop) → Prop) : TO := fun σ H Q => Lo P (fun g Q' => t c σ g Q') H Q
theorem PO.imp {e : Option Expr} {t t' : TO} (h : PO X e t) (i : ∀ σ H Q, t' σ H Q → t σ H Q) : PO X e t' := ⟨fun pins s σ H Q I q => h.run pins s σ H Q I (i σ H Q q)⟩
theorem g_onone : PO X none (RO P c oNone) := PO.imp po_none fun σ H Q ⟨g, Q', A, h, i⟩ => i _ _ _ h A
theorem g_osome (h : PE X e (RE P c te)) : PO X (some e) (RO P c (oSome te)) := by
  refine PO.imp (po_some h) fun σ H Q ⟨g, Q', A, h, i⟩ => ?_
  exact ⟨g, _, A, h, fun x g1 H1 ⟨j, e, q⟩ A1 => ⟨j, e, i _ _ _ q A1⟩⟩
theorem sl_G' (hK : X.K = P.K) (hk : c.kl = P.kl) : SlR X (fun x lo hi H Q => Lo P (slV c.kl x lo hi) H Q) := by
  rw [hk]
  exact sl_G hK
theorem g_sl (hK : X.K = P.K) (hk : c.kl = P.kl) {lo hi : Option Expr} {tl th : Cal → L2.St → G → (Option Int → G → Prop) → Prop} {p2 : Pos} (ha : PE X a (RE P c ta)) (hl : PO X lo (RO P c tl)) (hh : PO X hi (RO P c th)) : PE X (.Subscript a (.Slice lo hi none p2) pos) (RE P c (eSl ta tl th)) := by
  refine PE.imp (pe_slice (sl_G' hK hk) ha hl hh) fun σ H Q ⟨g, Q', A, h, i⟩ => ?_
  exact ⟨g, _, A, h, fun x g1 H1 q A1 => ⟨g1, _, A1, q, fun l g2 H2 q2 A2 => ⟨g2, _, A2, q2, fun u g3 H3 q3 A3 => ⟨g3, Q', A3, q3, i⟩⟩⟩⟩
end
end SW
end

section
set_option Elab.async false
set_option linter.all false
set_option maxRecDepth 100000
set_option maxHeartbeats 4000000
namespace SW
open PySem PySem.Spec PyProof.Rows L2
/-! ### attributes -/
theorem an_inj : ∀ i < 21, ∀ j < 21, anOf i = anOf j → i = j := by decide +kernel
theorem at_lt : ∀ (c : Nat) (i : Nat), i ∈ atOf c → i < 21
  | 0, i, h => by simp [atOf] at h; omega
  | 1, i, h => by simp [atOf] at h; omega
  | 2, i, h => by simp [atOf] at h; omega
  | 3, i, h => by simp [atOf] at h; omega
  | 4, i, h => by simp [atOf] at h; omega
  | 5, i, h => by simp [atOf] at h; omega
  | n + 6, i, h => by simp [atOf] at h
theorem nmF_lookup {f : Nat} (hf : f < 21) : ∀ (fs : List (Nat × V)), (∀ p ∈ fs, p.1 < 21) → (nmF fs).lookup (anOf f) = fs.lookup f
  | [], _ => rfl
  | (i, v) :: r, h => by
    have ih := nmF_lookup hf r fun p hp => h p (List.mem_cons_of_mem _ hp)
    have hi : i < 21 := h (i, v) List.mem_cons_self
    show List.lookup (anOf f) ((anOf i, v) :: nmF r) = List.lookup f ((i, v) :: r)
    rw [List.lookup_cons, List.lookup_cons]
    by_cases e : f = i
    · subst e; simp
    · have e2 : (anOf f == anOf i) = false := beq_eq_false_iff_ne.mpr fun z => e (an_inj f hf i hi z)
      have e3 : (f == i) = false := beq_eq_false_iff_ne.mpr e
      rw [e2, e3]
      exact ih
theorem nmF_put {f : Nat} {v : V} (hf : f < 21) : ∀ (fs : List (Nat × V)), (∀ p ∈ fs, p.1 < 21) → nmF (putN f v fs) = putF (anOf f) v (nmF fs)
  | [], _ => rfl
  | (i, x) :: r, h => by
    have ih := nmF_put (v := v) hf r fun p hp => h p (List.mem_cons_of_mem _ hp)
    have hi : i < 21 := h (i, x) List.mem_cons_self
    show nmF (if i = f then (i, v) :: r else (i, x) :: putN f v r) = (if anOf i = anOf f then (anOf i, v) :: nmF r else (anOf i, x) :: putF (anOf f) v (nmF r))
    by_cases e : i = f
    · subst e; rw [if_pos rfl, if_pos rfl]; rfl
    · rw [if_neg e, if_neg fun z => e (an_inj i hi f hf z), ← ih]; rfl
theorem putN_mem {f : Nat} {v : V} {L : List Nat} (hf : f ∈ L) : ∀ {fs : List (Nat × V)}, (∀ p ∈ fs, p.1 ∈ L) → ∀ p ∈ putN f v fs, p.1 ∈ L
  | [], _, p, hp => by
    simp only [putN, List.mem_cons, List.not_mem_nil, or_false] at hp
    rw [hp]; exact hf
  | (i, x) :: r, h, p, hp => by
    unfold putN at hp
    split at hp
    · rcases List.mem_cons.mp hp with rfl | hp
      · exact h (i, x) List.mem_cons_self
      · exact h p (List.mem_cons_of_mem _ hp)
    · rcases List.mem_cons.mp hp with rfl | hp
      · exact h (i, x) List.mem_cons_self
      · exact putN_mem hf (fun p hp => h p (List.mem_cons_of_mem _ hp)) p hp
theorem lookup_mem {f : Nat} {v : V} : ∀ {fs : List (Nat × V)}, fs.lookup f = some v → (f, v) ∈ fs
  | (i, x) :: r, h => by
    rw [List.lookup_cons] at h
    by_cases e : f = i
    · subst e
      simp at h
      subst h
      exact List.mem_cons_self
    · have e3 : (f == i) = false := beq_eq_false_iff_ne.mpr e
      rw [e3] at h
      exact List.mem_cons_of_mem _ (lookup_mem h)
/-- what of the text the classes must have -/
structure Clss (P : Prm) : Prop where
  cl : ∀ c C, P.cls c = some C → Cls P.K C
  na : ∀ c C i, P.cls c = some C → i ∈ atOf c → NoAttr P.K C (anOf i)

abbrev botE : Nat → L2.St → G → Prop := fun _ _ _ => False
/-- a promise over the abstract heap, nothing raised -/
def lowSp (P : Prm) (sp : SpG) : Sp := fun vs H Q _ => Lo P (fun g Q' => sp vs g Q' fun _ _ => False) H Q

def isStar : Expr → Bool
  | .Starred _ _ => true
  | _ => false
theorem star_cons {e : Expr} {es : List Expr} {env : Env} (h : isStar e = false) : starEach (e :: es) env = (false, eval e env) :: starEach es env := by
  cases e <;> first | rfl | (simp [isStar] at h)
theorem star_any {pos : Pos} {env : Env} : ∀ {es : List Expr}, (es.all fun e => !isStar e) = true → (backTo pos (starEach es env)).any (·.1) = false
  | [], _ => rfl
  | e :: es, h => by
    rw [List.all_cons, Bool.and_eq_true] at h
    have h1 : isStar e = false := by simpa using h.1
    rw [star_cons h1]
    show (false || (backTo pos (starEach es env)).any (·.1)) = false
    rw [star_any h.2]
    rfl
theorem base_of {o : Expr} {f : Str} {env : Env} {w : Sem Value} (h : ∀ id p q, o = .Call (.Name id p) [] [] q → id ≠ "super") : attributeBase o f env w = w := by
  unfold attributeBase
  split
  · rename_i id _ pos
    have hn : (id != "super") = true := bne_iff_ne.mpr (h id _ pos rfl)
    rw [hn]
    rfl
  · rfl
section
variable {P : Prm} {X : Cx} {c : Cal} {e a b o i : Expr} {es : List Expr} {ta tb te : T} {tl : TLs} {pos : Pos}
theorem g_at (hK : X.K = P.K) (cl : Clss P) {f : Nat} (ha : PE X a (RE P c ta)) (hb : attributeBase a (anOf f) X.env (eval a X.env) = eval a X.env) : PE X (.Attribute a (anOf f) pos) (RE P c (eAt ta f)) := by
  refine PE.imp (pe_fld ha hb) fun σ H Q ⟨g, Q', A, h, i⟩ => ⟨g, _, A, h, fun x g1 H1 q A1 => ?_⟩
  obtain ⟨p, cn, fs, v, rfl, e, l, q⟩ := q
  obtain ⟨C, dx, e1, e2, e3⟩ := A1.ins e
  have hf := e3 _ (lookup_mem l)
  rw [hK]
  exact ⟨p, C, dx, nmF fs, v, rfl, e2, cl.cl cn C e1, cl.na cn C f e1 hf, (nmF_lookup (at_lt _ _ hf) fs fun p hp => at_lt _ _ (e3 p hp)).trans l, i _ _ _ q A1⟩
theorem ix_at {fs : List (Nat × V)} {cn : Nat} (h : ∀ p ∈ fs, p.1 ∈ atOf cn) {m : Str} (hm : ∀ i ∈ atOf cn, anOf i ≠ m) : (nmF fs).lookup m = none := by
  cases z : (nmF fs).lookup m with
  | none => rfl
  | some v =>
    have := PySem.mem_of_lookup z
    obtain ⟨p, hp, e⟩ := List.mem_map.mp this
    injection e with e1 e2
    exact absurd e1 (hm _ (h p hp))
/-! built-in functions -/
theorem g_bi {x : Str} {id : String} {f : Bi} {p : Pos} (hk : c.kl = P.kl) (hc : CallR X (.builtin id) (biL P f)) (hg : Gl X x) (hm : X.mg x = none) (hv : bootBuiltins x = some (.builtin id)) (hn : x ≠ "__name__") (hdb : (x == ("__debug__" : Str)) = false)
    (ha : PA X (e :: es) (RL P c tl)) (he : isStar e = false) (hes : (es.all fun e => !isStar e) = true) : PE X (.Call (.Name x p) (e :: es) [] pos) (RE P c (eBi f tl)) := by
  refine PE.imp (pe_callB hc hg hm hv ha hn hdb (star_cons he) (star_any hes)) fun σ H Q ⟨g, Q', A, h, i⟩ => ⟨g, _, A, h, fun xs g1 H1 q A1 => ⟨g1, Q', A1, ?_, i⟩⟩
  rw [← hk]; exact q
theorem g_biT {x : Str} {id : String} {f : Bi} {p : Pos} (hk : c.kl = P.kl) (hc : CallR X (.type id) (biL P f)) (hg : Gl X x) (hm : X.mg x = none) (hv : bootBuiltins x = some (.type id)) (hn : x ≠ "__name__") (hdb : (x == ("__debug__" : Str)) = false)
    (ha : PA X (e :: es) (RL P c tl)) (he : isStar e = false) (hes : (es.all fun e => !isStar e) = true) : PE X (.Call (.Name x p) (e :: es) [] pos) (RE P c (eBi f tl)) := by
  refine PE.imp (pe_callTy hc hg hm hv ha hn hdb (star_cons he) (star_any hes)) fun σ H Q ⟨g, Q', A, h, i⟩ => ⟨g, _, A, h, fun xs g1 H1 q A1 => ⟨g1, Q', A1, ?_, i⟩⟩
  rw [← hk]; exact q
/-- isinstance(e, T) -/
theorem g_isi (hK : X.K = P.K) (hk : c.kl = P.kl) {f : Bi} {T : String} {p p2 : Pos} {y : Str} (hf : (f, T) ∈ [(Bi.isint, "int"), (Bi.isbool, "bool"), (Bi.isstr, "str"), (Bi.istuple, "tuple"), (Bi.islist, "list")])
    (hg : Gl X "isinstance") (hm : X.mg "isinstance" = none) (hgT : Gl X y) (hmT : X.mg y = none) (hvT : bootBuiltins y = some (.type T)) (hnT : y ≠ "__name__") (hdT : (y == ("__debug__" : Str)) = false) (ha : PE X e (RE P c te)) (he : isStar e = false) :
    PE X (.Call (.Name "isinstance" p) [e, .Name y p2] [] pos) (RE P c (eBi f (lCons te lNil))) := by
  have hT : PE X (.Name y p2) (tC (.ty T)) := pe_bltn hgT hmT hvT rfl hnT hdT
  have hA : PA X [e, .Name y p2] (tCons (RE P c te) (tCons (tC (.ty T)) tNil)) := pa_cons ha (pa_cons hT pa_nil (star_cons rfl)) (star_cons he)
  refine PE.imp (pe_callB (bi_isi hK hf) hg hm (by decide +kernel) hA (by decide) (by decide) (star_cons he) (star_any rfl)) fun σ H Q ⟨g, Q', A, h, i⟩ => ⟨g, _, A, h, fun x g1 H1 q A1 => ⟨x, rfl, g1, Q', A1, ?_, i⟩⟩
  rw [← hk]; exact q

/-! methods of built-in types -/
/-- the type of a value, for a method -/
def bmT (m : Bm) (K : PySem.W.Frag) (x : V) (H : Hp) (T : String) : Prop := tyV K T x H
theorem ty_list {K : PySem.W.Frag} {H : Hp} {a : Addr} {xs : List V} (h : H a = some (.lst xs)) : tyV K "list" (.ref a) H := Or.inl ⟨rfl, xs, SqL.of h⟩
theorem ty_dict {K : PySem.W.Frag} {H : Hp} {a : Addr} {kvs} (h : H a = some (.dK kvs)) : tyV K "dict" (.ref a) H := Or.inr (Or.inr (Or.inl ⟨rfl, Or.inl ⟨kvs, h⟩⟩))
structure BmAt (T : String) (name : Str) (id : String) : Prop where
  pa : PlainAttrs T
  sl : Slot T name id
  ty : typeOf (.builtin id) = pure (.type "method_descriptor")
theorem bm_of {T id : String} {name : Str} (B : BmAt T name id) {apos cpos : Pos} {x : V} {v : Value} {pins : List (Addr × Obj)} {s : Shared} {σ : L2.St} {H : Hp} {Q : VK} (I : Inv X pins σ H s) (rx : RelV x v) (ty : tyV X.K T x H) (R : V → List V → Hp → VK → Prop) (hm : MtR X id R) (ha : PA X es (RL P c tl))
    (hes : (es.all fun e => !isStar e) = true) (hn : es = [] → tl = lNil) (q : RL P c tl σ H fun vs H2 => R x vs H2 Q) :
    ∃ T id, PlainAttrs T ∧ Slot T name id ∧ typeOf (.builtin id) = pure (.type "method_descriptor") ∧ s.TypeIs v T ∧ (∀ a, v = .ref a → ∃ ob, s.heap.get? a = some ob ∧ ob.dict = none) ∧
      wpAny (model X.prog X.w) X.A (callWith cpos (.builtin id) [v] (backTo cpos (starEach es X.env)) (backToKw cpos (keywordEach [] X.env))) (EP X pins σ Q) X.xe s := by
  obtain ⟨h1, h2⟩ := tyV_is I rx ty
  refine ⟨T, id, B.pa, B.sl, B.ty, h1, h2, ?_⟩
  refine Calls.callWith_builtin (star_any hes) ?_
  cases es with
  | nil =>
    have e := hn rfl
    subst e
    obtain ⟨g, Q', A, h, i⟩ := q
    exact PySem.evalArgs_none (hm pins s σ H x [] v [] Q I rx .nil (i _ _ _ h A))
  | cons e es =>
    have hA := ha.run cpos pins s σ H _ I q
    rw [star_cons (by rw [List.all_cons, Bool.and_eq_true] at hes; simpa using hes.1)] at hA ⊢
    refine Calls.evalArgs_plain ?_
    exact thn hA fun us s2 ⟨vs, H2, I2, r2, q2⟩ => hm pins s2 σ H2 x vs v us Q I2 rx r2 q2
/-- the name of a method -/
def bmName : Bm → Str
  | .append => "append" | .extend => "extend" | .pop => "pop" | .popK => "pop" | .insert => "insert" | .reverse => "reverse" | .get => "get" | .count => "count" | .join => "join" | .replace => "replace" | .partition => "partition" | .split => "split" | .rfind => "rfind"
def bmRd (P : Prm) (c : Cal) (m : Bm) : V → List V → Hp → VK → Prop := fun x vs H Q => Lo P (bmV c.kl m x vs) H Q
/-- every method by the type that its receiver has -/
theorem bm_run (hK : X.K = P.K) (hk : c.kl = P.kl) {m : Bm} {apos cpos : Pos} {x : V} {v : Value} {pins : List (Addr × Obj)} {s : Shared} {σ : L2.St} {H : Hp} {g : G} {Q : VK} (I : Inv X pins σ H s) (rx : RelV x v) (A : Ab P g H) (hx : bmOk m x g) (ha : PA X es (RL P c tl))
    (hes : (es.all fun e => !isStar e) = true) (hn : es = [] → tl = lNil) (q : RL P c tl σ H fun vs H2 => bmRd P c m x vs H2 Q) :
    ∃ T id, PlainAttrs T ∧ Slot T (bmName m) id ∧ typeOf (.builtin id) = pure (.type "method_descriptor") ∧ s.TypeIs v T ∧ (∀ a, v = .ref a → ∃ ob, s.heap.get? a = some ob ∧ ob.dict = none) ∧
      wpAny (model X.prog X.w) X.A (callWith cpos (.builtin id) [v] (backTo cpos (starEach es X.env)) (backToKw cpos (keywordEach [] X.env))) (EP X pins σ Q) X.xe s := by
  unfold bmOk at hx
  split at hx
  · obtain ⟨xs, e⟩ := hx
    refine bm_of (apos := apos) ⟨PySem.F.plainAttrs_list, PySem.F.slot_list_append, PySem.F.type_list_append⟩ I rx (ty_list (A.lst e)) _ (fun pins s σ H x vs v us Q I rx r h => ?_) ha hes hn q
    obtain ⟨g, Q', A, ⟨a, xs, y, rfl, rfl, e, hz, q⟩, i⟩ := h
    exact mt_append pins s σ H _ _ v us Q I rx r ⟨a, xs, y, rfl, rfl, A.lst e, hz, i _ _ _ q (A.setL e)⟩
  · obtain ⟨xs, e⟩ := hx
    refine bm_of (apos := apos) ⟨PySem.F.plainAttrs_list, PySem.F.slot_list_extend, PySem.F.type_list_extend⟩ I rx (ty_list (A.lst e)) _ (fun pins s σ H x vs v us Q I rx r h => ?_) ha hes hn q
    obtain ⟨g, Q', A, ⟨a, b, xs, zs, rfl, rfl, e, e2, hz, q⟩, i⟩ := h
    exact mt_extend pins s σ H _ _ v us Q I rx r ⟨a, b, xs, zs, rfl, rfl, A.lst e, A.lst e2, hz, i _ _ _ q (A.setL e)⟩
  · refine bm_of (apos := apos) (T := "list") ⟨PySem.F.plainAttrs_list, PySem.F.slot_list_insert, PySem.F.type_list_insert⟩ I rx (let ⟨xs, e⟩ := hx; ty_list (A.lst e)) _ (fun pins s σ H x vs v us Q I rx r h => ?_) ha hes hn q
    obtain ⟨g, Q', A, ⟨a, xs, j, y, rfl, rfl, e, hz, h0, h1, q⟩, i⟩ := h
    exact mt_insert pins s σ H _ _ v us Q I rx r ⟨a, xs, j, y, rfl, rfl, A.lst e, hz, h0, h1, i _ _ _ q (A.setL e)⟩
  · obtain ⟨xs, e⟩ := hx
    refine bm_of (apos := apos) ⟨PySem.F.plainAttrs_list, PySem.F.slot_list_reverse, PySem.F.type_list_reverse⟩ I rx (ty_list (A.lst e)) _ (fun pins s σ H x vs v us Q I rx r h => ?_) ha hes hn q
    obtain ⟨g, Q', A, ⟨a, xs, rfl, rfl, e, q⟩, i⟩ := h
    exact mt_reverse pins s σ H _ _ v us Q I rx r ⟨a, xs, rfl, rfl, A.lst e, i _ _ _ q (A.setL e)⟩
  · obtain ⟨xs, e⟩ := hx
    refine bm_of (apos := apos) ⟨PySem.F.plainAttrs_list, PySem.F.slot_list_pop, PySem.F.type_list_pop⟩ I rx (ty_list (A.lst e)) _ (fun pins s σ H x vs v us Q I rx r h => ?_) ha hes hn q
    obtain ⟨g, Q', A, h, i⟩ := h
    unfold bmV at h
    simp only at h
    split at h
    · obtain ⟨a, xs, y, rfl, e, ey, q⟩ := h
      exact mt_pop pins s σ H _ _ v us Q I rx r ⟨a, xs, y, rfl, rfl, A.lst e, ey, i _ _ _ q (A.setL e)⟩
    · obtain ⟨a, xs, j, n, y, rfl, rfl, e, h1, h2, h3, h4, q⟩ := h
      exact mt_popAt pins s σ H _ _ v us Q I rx r ⟨a, xs, j, n, y, rfl, rfl, A.lst e, h1, h2, h3, h4, i _ _ _ q (A.setL e)⟩
    · exact h.elim
  · obtain ⟨xs, e⟩ := hx
    refine bm_of (apos := apos) ⟨PySem.F.plainAttrs_dict, PySem.F.slot_dict_pop, PySem.F.type_dict_pop⟩ I rx (ty_dict (A.dK e)) _ (fun pins s σ H x vs v us Q I rx r h => ?_) ha hes hn q
    obtain ⟨g, Q', A, ⟨a, kvs, k, w, rfl, rfl, e, l, q⟩, i⟩ := h
    cases rx
    obtain ⟨u, rfl, ru⟩ := vals1 r
    exact d_pop I (A.dK e) ru l (.inl rfl) fun w' s' I' rw' => ⟨w, _, I', rw', i _ _ _ q (A.setK e)⟩
  · refine bm_of (apos := apos) (T := "dict") ⟨PySem.F.plainAttrs_dict, PySem.F.slot_dict_get, PySem.F.type_dict_get⟩ I rx (let ⟨xs, e⟩ := hx; ty_dict (A.dK e)) _ (fun pins s σ H x vs v us Q I rx r h => ?_) ha hes hn q
    obtain ⟨g, Q', A, h, i⟩ := h
    exact h.elim
  · refine bm_of (apos := apos) ⟨PySem.F.plainAttrs_str, PySem.F.slot_str_count, PySem.F.type_str_count⟩ I rx rfl _ (fun pins s σ H x vs v us Q I rx r h => ?_) ha hes hn q
    obtain ⟨g, Q', A, ⟨a, b, rfl, rfl, q⟩, i⟩ := h
    exact mt_count pins s σ H _ _ v us Q I rx r ⟨a, b, rfl, rfl, i _ _ _ q A⟩
  · refine bm_of (apos := apos) ⟨PySem.F.plainAttrs_str, PySem.F.slot_str_join, PySem.F.type_str_join⟩ I rx rfl _ (fun pins s σ H x vs v us Q I rx r h => ?_) ha hes hn q
    obtain ⟨g, Q', A, ⟨a, p, ys, rfl, rfl, l, hz, q⟩, i⟩ := h
    rw [hk] at l
    have z := A.ls l
    rw [← hK] at z
    exact mt_join pins s σ H _ _ v us Q I rx r ⟨a, p, ys, rfl, rfl, .inl z, hz, i _ _ _ q A⟩
  · refine bm_of (apos := apos) ⟨PySem.F.plainAttrs_str, PySem.F.slot_str_replace, PySem.F.type_str_replace⟩ I rx rfl _ (fun pins s σ H x vs v us Q I rx r h => ?_) ha hes hn q
    obtain ⟨g, Q', A, h, i⟩ := h
    exact h.elim
  · refine bm_of (apos := apos) ⟨PySem.F.plainAttrs_str, PySem.F.slot_str_partition, PySem.F.type_str_partition⟩ I rx rfl _ (fun pins s σ H x vs v us Q I rx r h => ?_) ha hes hn q
    obtain ⟨g, Q', A, ⟨a, b, rfl, rfl, h1, h2, q⟩, i⟩ := h
    exact mt_partition pins s σ H _ _ v us Q I rx r ⟨a, b, rfl, rfl, h1, h2, fun p np => i _ _ _ (q p (A.fresh np)) (A.newU np)⟩
  · refine bm_of (apos := apos) ⟨PySem.F.plainAttrs_str, PySem.F.slot_str_split, PySem.F.type_str_split⟩ I rx rfl _ (fun pins s σ H x vs v us Q I rx r h => ?_) ha hes hn q
    obtain ⟨g, Q', A, ⟨a, b, rfl, rfl, h1, h2, q⟩, i⟩ := h
    exact mt_split pins s σ H _ _ v us Q I rx r ⟨a, b, rfl, rfl, h1, h2, fun p np => i _ _ _ (q p (A.fresh np)) (A.newL np)⟩
  · refine bm_of (apos := apos) ⟨PySem.F.plainAttrs_str, PySem.F.slot_str_rfind, PySem.F.type_str_rfind⟩ I rx rfl _ (fun pins s σ H x vs v us Q I rx r h => ?_) ha hes hn q
    obtain ⟨g, Q', A, ⟨a, b, rfl, rfl, q⟩, i⟩ := h
    exact mt_rfind pins s σ H _ _ v us Q I rx r ⟨a, b, rfl, rfl, i _ _ _ q A⟩
  · exact hx.elim
end
end SW
end

section
set_option Elab.async false
set_option linter.all false
set_option maxRecDepth 100000
set_option maxHeartbeats 4000000
namespace SW
open PySem PySem.Spec PyProof.Rows L2
def baseOk (o : Expr) : Bool := match o with
  | .Call (.Name id _) [] [] _ => id != "super"
  | _ => true
theorem base_ok {o : Expr} {f : Str} {env : Env} {w : Sem Value} (h : baseOk o = true) : attributeBase o f env w = w :=
  base_of fun id p q e => by subst e; exact bne_iff_ne.mp h
theorem star_all {pos : Pos} {env : Env} {es : List Expr} (h : (es.all fun e => !isStar e) = true) : (backTo pos (starEach es env)).all (fun x => !x.1) = true := by
  have := star_any (pos := pos) (env := env) h
  rw [List.any_eq_false] at this
  rw [List.all_eq_true]
  intro x hx
  simpa using this x hx
theorem few_ok {pos : Pos} {env : Env} {es : List Expr} (h : (es.all fun e => !isStar e) = true) (hl : es.length < 30) :
    ((backTo pos (starEach es env)).all (fun x => !x.1) && (backToKw pos (keywordEach [] env)).all (fun x => x.1.isSome) && decide (es.length + ([] : List Keyword).length + (if ([] : List Keyword).isEmpty then 0 else 1) < 30)) = true := by
  rw [star_all h]
  simp only [List.length_nil, List.isEmpty_nil, Bool.true_and, if_true, Nat.add_zero, decide_eq_true hl, Bool.and_true]
  rfl
theorem meth_eval {o : Expr} {m : Str} {es : List Expr} {apos pos : Pos} {env : Env} (hb : baseOk o = true) (h : (es.all fun e => !isStar e) = true) (hl : es.length < 30) (hline : (apos.endLine == pos.line) = true) :
    eval (.Call (.Attribute o m apos) es [] pos) env = (do
      let ov ← eval o env
      standAt apos.atName
      let (f, first) ← holding [ov] (getMethod ov m (do return (← importBound o env).getD true))
      callWith pos f first (backTo pos (starEach es env)) (backToKw pos (keywordEach [] env))) := by
  rw [arm_eval_Call, base_ok hb]
  have e : methodCallForm (es.length + ([] : List Keyword).length) (backTo pos (starEach es env)) (backToKw pos (keywordEach [] env)) = true := by
    exact few_ok (pos := pos) (env := env) h hl
  unfold methodCall
  rw [e]
  unfold calleeOf methodCallPos
  rw [hline]
  simp only [if_true, Bool.or_true, pure_bind]
section
variable {P : Prm} {X : Cx} {c : Cal} {e a b o i : Expr} {es : List Expr} {ta tb te : T} {tl : TLs} {pos : Pos}
theorem g_bm (hK : X.K = P.K) (hk : c.kl = P.kl) {m : Bm} {apos : Pos} (ho : PE X o (RE P c ta)) (ha : PA X es (RL P c tl)) (hb : baseOk o = true) (hes : (es.all fun e => !isStar e) = true) (hl : es.length < 30) (hline : (apos.endLine == pos.line) = true) (hn : es = [] → tl = lNil) :
    PE X (.Call (.Attribute o (bmName m) apos) es [] pos) (RE P c (eBm m ta tl)) := by
  refine ⟨fun pins s σ H Q I ⟨g, Q', A, h, i⟩ => ?_⟩
  refine wpAny_Call_method_late (base_ok hb) (few_ok hes hl) hline rfl (thn (ho.run pins s σ H (fun x H1 => ∃ g1, Ab P g1 H1 ∧ bmOk m x g1 ∧ RL P c tl σ H1 fun vs H2 => bmRd P c m x vs H2 Q) I ⟨g, _, A, h, fun x g1 H1 q A1 => ⟨g1, A1, q.1, g1, _, A1, q.2, fun vs g2 H2 q2 A2 => ⟨g2, Q', A2, q2, i⟩⟩⟩) fun v s1 ⟨x, H1, I1, rx, g1, A1, hx, q1⟩ => ?_)
  exact bm_run (apos := apos) hK hk I1 rx A1 hx ha hes hn q1

/-! ### calls of the program's own defs -/
/-- the def with the number f stands at fa; it keeps its promise at level k -/
structure FnAt (X : Cx) (P : Prm) (c : Cal) (k : Nat) (f : Nat) (fa : Addr) : Prop where
  ok : ∃ fd ps, FnOk X.prog X.w X.K X.mg X.base CX0 k fa fd ps (lowSp P (c.fn f)) ∧ Binds X.K fd ps []
  kp : PySem.W.keepIn X.K (.ref fa) = true
theorem g_fn {x : Str} {p : Pos} {f k : Nat} {fa : Addr} (hE : c.er = botE) (F : FnAt X P c k f fa) (hr : Room k X.A) (hg : Gl X x) (hm : X.mg x = some (.ref fa)) (hdb : (x == ("__debug__" : Str)) = false)
    (ha : PA X es (RL P c tl)) (hes : (es.all fun e => !isStar e) = true) (hn : es = [] → tl = lNil) : PE X (.Call (.Name x p) es [] pos) (RE P c (eFn f tl)) := by
  obtain ⟨⟨fd, ps, F, hb⟩, hk⟩ := F
  cases es with
  | nil =>
    have e := hn rfl
    subst e
    refine PE.imp (pe_call0 F hr hg hm hk hb .nil pass0 hdb) fun σ H Q ⟨g, Q', A, h, i⟩ => ?_
    refine ⟨g, Q', A, ?_, i⟩
    unfold eFn at h
    rw [hE] at h
    exact h
  | cons e es =>
    rw [List.all_cons, Bool.and_eq_true] at hes
    refine PE.imp (pe_call F hr hg hm hk hb .nil pass0 ha hdb (star_cons (by simpa using hes.1)) (star_any hes.2)) fun σ H Q ⟨g, Q', A, h, i⟩ => ?_
    refine ⟨g, _, A, h, fun vs g1 H1 q A1 => ?_⟩
    rw [hE] at q
    rw [List.append_nil]
    exact ⟨g1, Q', A1, q, i⟩
theorem Ab.mk {g : G} {H : Hp} {p dx C : Addr} {cn : Nat} (A : Ab P g H) (e1 : H p = none) (e2 : H dx = none) (ne : dx ≠ p) (hc : P.cls cn = some C) : Ab P (gu g p (.ins cn [])) (upd (upd H dx (.own p)) p (.ins C dx [])) := by
  refine A.new e1 (fun b v z => ?_) fun own => ⟨C, dx, hc, upd_same, fun p hp => nomatch hp⟩
  rw [upd_ne (ne_of_none z e1), upd_ne (ne_of_none z e2)]
  exact z
theorem g_mk {x : Str} {p : Pos} {f k cn : Nat} {fa C : Addr} (hE : c.er = botE) (F : FnAt X P c k f fa) (M : Mk X.K C fa) (hC : P.cls cn = some C) (hr : Room (k + 1) X.A) (hg : Gl X x) (hm : X.mg x = some (.ref C)) (hdb : (x == ("__debug__" : Str)) = false)
    (ha : PA X es (RL P c tl)) (hes : (es.all fun e => !isStar e) = true) (hn : es = [] → tl = lNil) : PE X (.Call (.Name x p) es [] pos) (RE P c (eMk cn f tl)) := by
  obtain ⟨⟨fd, ps, F, hb⟩, hk⟩ := F
  cases es with
  | nil =>
    have e := hn rfl
    subst e
    refine PE.imp (pe_make0 M F hr hg hm hb .nil pass0 hdb) fun σ H Q ⟨g, Q', A, h, i⟩ => ?_
    show ∀ x dx, H x = none → H dx = none → dx ≠ x → _
    intro q dx e1 e2 ne
    unfold eMk at h
    rw [hE] at h
    exact ⟨_, _, A.mk e1 e2 ne hC, h q (A.fresh e1), fun v g2 H2 q2 A2 => ⟨q2.1, i _ _ _ q2.2 A2⟩⟩
  | cons e es =>
    rw [List.all_cons, Bool.and_eq_true] at hes
    refine PE.imp (pe_make M F hr hg hm hb .nil pass0 ha hdb (star_cons (by simpa using hes.1)) (star_any hes.2)) fun σ H Q ⟨g, Q', A, h, i⟩ => ?_
    refine ⟨g, _, A, h, fun vs g1 H1 q A1 => ?_⟩
    rw [hE] at q
    rw [List.append_nil]
    intro r dx e1 e2 ne
    exact ⟨_, _, A1.mk e1 e2 ne hC, q r (A1.fresh e1), fun v g2 H2 q2 A2 => ⟨q2.1, i _ _ _ q2.2 A2⟩⟩
/-- o.m(..): for each class that has m, the def -/
structure MtAt (X : Cx) (P : Prm) (c : Cal) (k : Nat) (m : Str) (ms : List (Nat × Nat)) : Prop where
  at_ : ∀ cn f, ms.lookup cn = some f → ∀ C, P.cls cn = some C → ∃ fa, Meth X.K C m fa ∧ FnAt X P c k f fa
  ne : ∀ cn f, ms.lookup cn = some f → ∀ i ∈ atOf cn, anOf i ≠ m
theorem Ab.cls {g : G} {H : Hp} {x : V} {cn : Nat} (A : Ab P g H) (h : clsOf g x = some cn) : ∃ a C dx fs, x = .ref a ∧ H a = some (.ins C dx (nmF fs)) ∧ P.cls cn = some C ∧ ∀ p ∈ fs, p.1 ∈ atOf cn := by
  unfold clsOf at h
  split at h
  · rename_i a
    split at h
    · rename_i cn' fs e
      cases h
      obtain ⟨C, dx, h1, h2, h3⟩ := A.ins e
      exact ⟨a, C, dx, fs, rfl, h2, h1, h3⟩
    · rename_i S e
      cases h
      obtain ⟨own, A⟩ := A
      obtain ⟨C, dx, l, ts, h1, h2, _⟩ := (show ShAt P own H a S from (A.at_ _ _ e).2).ex
      exact ⟨a, C, dx, l.fs, rfl, h2, h1, by intro p hp; simp [ShL.fs] at hp; rcases hp with rfl | rfl | rfl | rfl | rfl | rfl | rfl | rfl <;> simp [atOf]⟩
    · cases h
  · cases h
theorem g_mt (hK : X.K = P.K) (cl : Clss P) {m : Str} {ms : List (Nat × Nat)} {k : Nat} {apos : Pos} (hE : c.er = botE) (M : MtAt X P c k m ms) (hr : Room k X.A) (ho : PE X o (RE P c ta)) (ha : PA X es (RL P c tl)) (hb : baseOk o = true) (hes : (es.all fun e => !isStar e) = true) (hl : es.length < 30) (hline : (apos.endLine == pos.line) = true) (hn : es = [] → tl = lNil) :
    PE X (.Call (.Attribute o m apos) es [] pos) (RE P c (eMt ms ta tl)) := by
  refine ⟨fun pins s σ H Q I ⟨g, Q', A, h, i⟩ => ?_⟩
  refine PySem.W.methodCall_KW (thn (ho.run pins s σ H (fun x H1 => ∃ g1 cn f, Ab P g1 H1 ∧ clsOf g1 x = some cn ∧ ms.lookup cn = some f ∧ RL P c tl σ H1 fun vs H2 => lowSp P (c.fn f) (x :: vs) H2 Q fun _ _ _ => False) I
    ⟨g, _, A, h, fun x g1 H1 q A1 => ?_⟩) fun u s1 ⟨x, H1, I1, rx, g1, cn, f, A1, e1, e2, q⟩ => ?_) (meth_eval hb hes hl hline)
  · obtain ⟨cn, f, e1, e2, q⟩ := q
    rw [hE] at q
    exact ⟨g1, cn, f, A1, e1, e2, g1, _, A1, q, fun vs g2 H2 q2 A2 => ⟨g2, Q', A2, q2, i⟩⟩
  · obtain ⟨a, C, dx, fs, rfl, ea, eC, hf⟩ := A1.cls e1
    obtain ⟨fa, Mt, ⟨⟨fd, ps, F, hbi⟩, hk⟩⟩ := M.at_ cn f e2 C eC
    obtain rfl : u = Value.ref a := rx
    refine getmeth_ok I1 ea (hK ▸ cl.cl cn C eC) Mt (ix_at hf (M.ne cn f e2)) ?_
    cases es with
    | nil =>
      have e := hn rfl
      subst e
      obtain ⟨g, Q', A, h, i⟩ := q
      exact PySem.W.callWith_K0 (first := [.ref a]) I1.kIn Mt.kp (run_fn (us := [.ref a]) (vs := [.ref a]) F hr hbi .nil pass0 I1 (.cons rfl .nil) (by rw [List.append_nil]; exact i _ _ _ h A))
    | cons e es =>
      rw [List.all_cons, Bool.and_eq_true] at hes
      refine PySem.W.callWith_K (first := [.ref a]) (h₀ := X.base) I1.ok.mod.kin Mt.kp (thn (ha.run pos pins s1 σ H1 _ I1 q) fun us s2 ⟨vs, H2, I2, r, q2⟩ => ⟨I2.kIn, ?_⟩) (star_cons (by simpa using hes.1)) (star_any hes.2)
      exact run_fn (us := .ref a :: us) (vs := .ref a :: vs) F hr hbi .nil pass0 I2 (.cons rfl r) (by rw [List.append_nil]; exact q2)
end
end SW
end

section
set_option Elab.async false
set_option linter.all false
set_option maxRecDepth 100000
set_option maxHeartbeats 4000000
namespace SW
open PySem PySem.Spec PyProof.Rows L2
/-! ### targets -/
abbrev RG (P : Prm) (c : Cal) (t : TTg) : TG := fun v σ H Q => Lo P (fun g (Q' : L2.St → G → Prop) => t c v σ g Q') H Q
theorem PG.imp {X : Cx} {e : Expr} {t t' : TG} (h : PG X e t) (i : ∀ v σ H Q, t' v σ H Q → t v σ H Q) : PG X e t' := ⟨fun pins s σ H x u Q I r q => h.run pins s σ H x u Q I r (i x σ H Q q)⟩
section
variable {P : Prm} {X : Cx} {c : Cal} {e a b o i : Expr} {es : List Expr} {ta tb te : T} {tl : TLs} {pos : Pos}
theorem g_name {i : Nat} {x : Str} (hN : X.N.Nodup) (hi : X.N[i]? = some x) (hx : Loc X.env.scope x) (hf : X.fn x = true ∨ X.env.scope.names.lookup x = some .local) : PG X (.Name x pos) (RG P c (gN i)) :=
  PG.imp (pg_name hN hi hx hf) fun v σ H Q ⟨g, Q', A, h, i⟩ => i _ _ _ h A
def tgs : List Nat → TGs
  | [] => gNil
  | i :: r => gCons (gName i) (tgs r)
theorem tgs_ok {Q : L2.St → Hp → Prop} {H : Hp} : ∀ {is : List Nat} {xs : List V} {σ : L2.St}, xs.length = is.length → Q ((is.zip xs).foldl (fun s p => s.set p.1 (some p.2)) σ) H → tgs is xs σ H Q
  | [], [], _, _, h => ⟨rfl, h⟩
  | i :: r, x :: xs, σ, hl, h => ⟨x, xs, rfl, tgs_ok (is := r) (xs := xs) (by simpa using hl) h⟩
  | [], _ :: _, _, hl, _ => by simp at hl
  | _ :: _, [], _, hl, _ => by simp at hl
/-- names that are stored -/
inductive Nms (X : Cx) : List Expr → List Nat → Prop
  | nil : Nms X [] []
  | cons {x p i es is} : X.N[i]? = some x → Loc X.env.scope x → (X.fn x = true ∨ X.env.scope.names.lookup x = some .local) → Nms X es is → Nms X (.Name x p :: es) (i :: is)
theorem Nms.pgs (hN : X.N.Nodup) {is : List Nat} (h : Nms X es is) : PGs X es (tgs is) ∧ (assignEach es X.env).length = is.length ∧ (assignEach es X.env).findIdx? (·.1) = none := by
  induction h with
  | nil => exact ⟨pgs_nil, rfl, rfl⟩
  | cons h1 h2 h3 _ ih =>
    obtain ⟨i1, i2, i3⟩ := ih
    refine ⟨pgs_cons (pg_name hN h1 h2 h3) i1 rfl, ?_, ?_⟩
    · show (assignEach _ _).length + 1 = _
      rw [i2]; rfl
    · show List.findIdx? _ ((false, _) :: assignEach _ X.env) = none
      rw [List.findIdx?_cons]
      simp [i3]
theorem g_tgt {kk : Nat} {is : List Nat} (hK : X.K = P.K) (hc : X.calm = true) (hN : X.N.Nodup) (h : Nms X es is) : PG X (.Tuple es kk pos) (RG P c (gTp is)) := by
  obtain ⟨h1, h2, h3⟩ := h.pgs hN
  refine PG.imp (pg_tup hc h1 h2 h3) fun v σ H Q ⟨g, Q', A, ⟨a, xs, ev, e, hl, q⟩, i⟩ => ?_
  have z := A.tp e
  rw [← hK] at z
  exact ⟨a, xs, ev, z, hl, tgs_ok hl (i _ _ _ q A)⟩

/-! ### what is walked -/
/-- the hand layer's iterator walks this -/
structure JOk (P : Prm) (S : Sq) (J : It) : Prop where
  go : ∀ i g H, Ab P g H → S.ok P.kl g → i < S.len → J.go i H
  stop : ∀ i g H, Ab P g H → S.ok P.kl g → ¬ i < S.len → J.stop i H
  yld : ∀ i g H x H' Q, Ab P g H → S.ok P.kl g → i < S.len → S.item i g Q → J.yld i H x H' → ∃ g', Ab P g' H' ∧ Q x g'
theorem get_of {α : Type} {xs : List α} {i : Nat} (h : i < xs.length) : ∃ x, xs[i]? = some x := ⟨xs[i], List.getElem?_eq_getElem h⟩
theorem j_lst {a : Addr} {xs : List V} : JOk P (.lst a xs) (Itl P.K a) where
  go := fun i g H A ok hi => let ⟨x, e⟩ := get_of hi; ⟨xs, x, A.ls ok, e⟩
  stop := fun i g H A ok hi => ⟨xs, A.ls ok, Nat.le_of_not_lt hi⟩
  yld := fun i g H x H' Q A ok hi it ⟨e, y⟩ => by subst e; exact ⟨g, A, it x (y xs (A.ls ok))⟩
theorem j_tup {a : Addr} {xs : List V} : JOk P (.tup a xs) (Itt P.K a) where
  go := fun i g H A ok hi => let ⟨x, e⟩ := get_of hi; ⟨xs, x, A.tp ok, e⟩
  stop := fun i g H A ok hi => ⟨xs, A.tp ok, Nat.le_of_not_lt hi⟩
  yld := fun i g H x H' Q A ok hi it ⟨e, y⟩ => by subst e; exact ⟨g, A, it x (y xs (A.tp ok))⟩
theorem j_rng1 {lo : Int} {n : Nat} : JOk P (.rng lo 1 n) (Itr lo n) where
  go := fun i g H A ok hi => hi
  stop := fun i g H A ok hi => Nat.le_of_not_lt hi
  yld := fun i g H x H' Q A ok hi it ⟨e, y⟩ => by
    subst e y
    have it' : Q (.int (lo + (i : Nat) * 1)) g := it
    rw [Int.mul_one] at it'
    exact ⟨g, A, it'⟩
theorem j_rng {lo st : Int} {n : Nat} : JOk P (.rng lo st n) (Itc lo st n) where
  go := fun i g H A ok hi => hi
  stop := fun i g H A ok hi => Nat.le_of_not_lt hi
  yld := fun i g H x H' Q A ok hi it ⟨e, y⟩ => by subst e y; exact ⟨g, A, it⟩
theorem j_str {z : Str} : JOk P (.str z) (Its z) where
  go := fun i g H A ok hi => hi
  stop := fun i g H A ok hi => Nat.le_of_not_lt hi
  yld := fun i g H x H' Q A ok hi it ⟨e, k, ek, y⟩ => by subst e y; exact ⟨g, A, it k ek⟩
theorem j_enm {a : Addr} {xs : List V} : JOk P (.enm a xs) (Ite P.K a) where
  go := fun i g H A ok hi => let ⟨x, e⟩ := get_of hi; ⟨xs, x, A.ls ok, e⟩
  stop := fun i g H A ok hi => ⟨xs, A.ls ok, Nat.le_of_not_lt hi⟩
  yld := fun i g H x H' Q A ok hi it ⟨p, y, e1, e2, e3, e4⟩ => by subst e1 e3; exact ⟨_, A.newU e2, it p y (e4 xs (A.ls ok)) (A.fresh e2)⟩
theorem j_zip {a b : Addr} {xs ys : List V} : JOk P (.zip a b xs ys) (Itz P.K a b) where
  go := fun i g H A ok hi => by
    have hi' : i < min xs.length ys.length := hi
    obtain ⟨x, e⟩ := get_of (show i < xs.length by omega)
    obtain ⟨y, e'⟩ := get_of (show i < ys.length by omega)
    exact ⟨xs, ys, x, y, A.ls ok.1, A.ls ok.2, e, e'⟩
  stop := fun i g H A ok hi => ⟨xs, ys, A.ls ok.1, A.ls ok.2, by
    have hi' : ¬ i < min xs.length ys.length := hi
    omega⟩
  yld := fun i g H x H' Q A ok hi it ⟨p, y, z, e1, e2, e3, e4, e5⟩ => by subst e1 e3; exact ⟨_, A.newU e2, it p y z (e4 xs (A.ls ok.1)) (e5 ys (A.ls ok.2)) (A.fresh e2)⟩

abbrev RI (P : Prm) (c : Cal) (src : TI) : L2.TI := fun σ H R => Lo P (fun g R' => src c σ g R') H (fun S H' => ∀ J, JOk P S J → R J H')
theorem PI.imp {X : Cx} {tg e : Expr} {t t' : L2.TI} (h : PI X tg e t) (i : ∀ σ H Q, t' σ H Q → t σ H Q) : PI X tg e t' := ⟨fun pins s σ H Q I q => h.run pins s σ H Q I (i σ H Q q)⟩
/-- the value is walked -/
theorem iter_val (hK : X.K = P.K) (hk : c.kl = P.kl) {tg : Expr} {x : V} {v : Value} {pins : List (Addr × Obj)} {s1 : Shared} {σ : L2.St} {H1 : Hp} {R : It → Hp → Prop} {g1 : G} {R' : Sq → G → Prop} (I1 : Inv X pins σ H1 s1) (r1 : RelV x v) (A : Ab P g1 H1)
    (q : wkV c.kl x g1 R') (i : ∀ S g' H', R' S g' → Ab P g' H' → ∀ J, JOk P S J → R J H') : wpAny (model X.prog X.w) X.A (pyIter v) (PIE X pins σ tg R) X.xe s1 := by
  unfold wkV at q
  split at q
  · rename_i z
    obtain ⟨t, rfl⟩ := r1
    have q' := i _ _ _ q A _ j_str
    cases ha : z.cps.all (· < 128)
    · exact wpAny_pyIter_wide ha (pi_one (tk := s1.toks) I1 _ (turn_str _ z t "str_iterator" (.inr rfl)) ⟨_, Heap.get?_push_size _ rfl, rfl, rfl⟩ q')
    · exact wpAny_pyIter_ascii ha (pi_one (tk := s1.toks) I1 _ (turn_str _ z t "str_ascii_iterator" (.inl rfl)) ⟨_, Heap.get?_push_size _ rfl, rfl, rfl⟩ q')
  · rename_i a
    cases r1
    rcases q with ⟨xs, l, q⟩ | ⟨xs, l, q⟩
    · rw [hk] at l
      have hq := A.ls l
      rw [← hK] at hq
      have q' := i _ _ _ q A _ j_lst
      rw [← hK] at q'
      obtain ⟨its, rv, p, hz⟩ := I1.list hq
      exact wpAny_pyIter_list p.isList (pi_one (tk := s1.toks) I1 _ (turn_list a _) ⟨_, Heap.get?_push_size _ rfl, rfl, rfl⟩ q')
    · have hq := A.tp l
      rw [← hK] at hq
      have q' := i _ _ _ q A _ j_tup
      rw [← hK] at q'
      obtain ⟨its, rv, p, hz⟩ := I1.tuple hq
      exact wpAny_pyIter_tuple (show s1.heap.IsTuple a its.toArray from p) (pi_one (tk := s1.toks) I1 _ (turn_tuple a _) ⟨_, Heap.get?_push_size _ rfl, rfl, rfl⟩ q')
  · exact q.elim
theorem gi_val (hK : X.K = P.K) (hk : c.kl = P.kl) {tg : Expr} (ha : PE X a (RE P c ta)) : PI X tg a (RI P c (iVal ta)) := by
  refine ⟨fun pins s σ H R I ⟨g, R', A, h, i⟩ => ?_⟩
  refine thn (ha.run pins s σ H (fun x H1 => ∃ g1, Ab P g1 H1 ∧ wkV c.kl x g1 R') I ⟨g, _, A, h, fun x g1 H1 q A1 => ⟨g1, A1, q⟩⟩) fun v s1 ⟨x, H1, I1, r1, g1, A1, q1⟩ => ?_
  exact iter_val hK hk I1 r1 A1 q1 i
theorem gi_rng1 {tg : Expr} {p : Pos} (hg : Gl X "range") (hm : X.mg "range" = none) (ha : PE X a (RE P c ta)) (h1 : isStar a = false) : PI X tg (.Call (.Name "range" p) [a] [] pos) (RI P c (iRng1 ta)) := by
  refine PI.imp (pi_range1 hg hm (pa_cons ha pa_nil (star_cons h1)) (star_cons h1)) fun σ H R ⟨g, R', A, h, i⟩ => ?_
  refine ⟨g, _, A, h, fun x g1 H1 q A1 => ?_⟩
  obtain ⟨j, rfl, q1, q2, q⟩ := q
  exact ⟨j, rfl, q1, q2, i _ _ _ q A1 _ j_rng1⟩
theorem gi_rng2 {tg : Expr} {p : Pos} (hg : Gl X "range") (hm : X.mg "range" = none) (ha : PE X a (RE P c ta)) (hb : PE X b (RE P c tb)) (h1 : isStar a = false) (h2 : isStar b = false) : PI X tg (.Call (.Name "range" p) [a, b] [] pos) (RI P c (iRng2 ta tb)) := by
  refine PI.imp (pi_range2 hg hm (pa_cons ha (pa_cons hb pa_nil (star_cons h2)) (star_cons h1)) (by rw [star_cons h1, star_cons h2]; rfl) (star_cons h2)) fun σ H R ⟨g, R', A, h, i⟩ => ?_
  refine ⟨g, _, A, h, fun x g1 H1 q A1 => ⟨g1, _, A1, q, fun y g2 H2 q2 A2 => ?_⟩⟩
  obtain ⟨i', j, rfl, rfl, z1, z2, z3, z4, q⟩ := q2
  exact ⟨i', j, rfl, ⟨z1, z2, z3, z4⟩, i _ _ _ q A2 _ j_rng1⟩
theorem gi_rng3 {tg d : Expr} {td : T} {p : Pos} (hg : Gl X "range") (hm : X.mg "range" = none) (ha : PE X a (RE P c ta)) (hb : PE X b (RE P c tb)) (hd : PE X d (RE P c td)) (h1 : isStar a = false) (h2 : isStar b = false) (h3 : isStar d = false) :
    PI X tg (.Call (.Name "range" p) [a, b, d] [] pos) (RI P c (iRng3 ta tb td)) := by
  refine PI.imp (pi_range3 hg hm (pa_cons ha (pa_cons hb (pa_cons hd pa_nil (star_cons h3)) (star_cons h2)) (star_cons h1)) (star_cons h1) (star_any (by simp [h2, h3]))) fun σ H R ⟨g, R', A, h, i⟩ => ?_
  refine ⟨g, _, A, h, fun x g1 H1 q A1 => ⟨g1, _, A1, q, fun y g2 H2 q2 A2 => ⟨g2, _, A2, q2, fun z g3 H3 q3 A3 => ?_⟩⟩⟩
  obtain ⟨i', j, s, n, rfl, rfl, rfl, hr, q⟩ := q3
  exact ⟨i', j, s, n, rfl, hr, i _ _ _ q A3 _ j_rng⟩
theorem gi_enm {p tpos : Pos} {elts : List Expr} {kk : Nat} (hK : X.K = P.K) (hk : c.kl = P.kl) (hg : Gl X "enumerate") (hm : X.mg "enumerate" = none) (ha : PE X a (RE P c ta)) (h1 : isStar a = false) : PI X (.Tuple elts kk tpos) (.Call (.Name "enumerate" p) [a] [] pos) (RI P c (iEnm ta)) := by
  refine PI.imp (pi_enum hg hm (pa_cons ha pa_nil (star_cons h1)) (star_cons h1)) fun σ H R ⟨g, R', A, h, i⟩ => ?_
  refine ⟨g, _, A, h, fun x g1 H1 q A1 => ?_⟩
  obtain ⟨r, xs, rfl, l, q⟩ := q
  rw [hk] at l
  have z := A1.ls l
  rw [hK]
  exact ⟨r, xs, rfl, z, i _ _ _ q A1 _ j_enm⟩
theorem gi_zip {p tpos : Pos} {elts : List Expr} {kk : Nat} (hK : X.K = P.K) (hk : c.kl = P.kl) (hg : Gl X "zip") (hm : X.mg "zip" = none) (ha : PE X a (RE P c ta)) (hb : PE X b (RE P c tb)) (h1 : isStar a = false) (h2 : isStar b = false) :
    PI X (.Tuple elts kk tpos) (.Call (.Name "zip" p) [a, b] [] pos) (RI P c (iZip ta tb)) := by
  refine PI.imp (pi_zip hg hm (pa_cons ha (pa_cons hb pa_nil (star_cons h2)) (star_cons h1)) (star_cons h1) (star_any (by simp [h2]))) fun σ H R ⟨g, R', A, h, i⟩ => ?_
  refine ⟨g, _, A, h, fun x g1 H1 q A1 => ⟨g1, _, A1, q, fun y g2 H2 q2 A2 => ?_⟩⟩
  obtain ⟨r1, r2, xs, ys, rfl, rfl, l1, l2, q⟩ := q2
  rw [hk] at l1 l2
  rw [hK]
  exact ⟨r1, r2, xs, ys, rfl, A2.ls l1, A2.ls l2, i _ _ _ q A2 _ j_zip⟩
end
end SW
end

section
set_option Elab.async false
set_option linter.all false
set_option maxRecDepth 100000
set_option maxHeartbeats 4000000
namespace SW
open PySem PySem.Spec PyProof.Rows L2
structure EnOk (P : Prm) (D' : En) (D : Ends) : Prop where
  nx : ∀ σ g H, D'.nx σ g → Ab P g H → D.nx σ H
  rt : ∀ v g H, D'.rt v g → Ab P g H → D.rt v H
  bk : ∀ σ g H, D'.bk σ g → Ab P g H → D.bk σ H
  ct : ∀ σ g H, D'.ct σ g → Ab P g H → D.ct σ H
def RS (P : Prm) (c : Cal) (t : TSt) : TS := fun D σ H => ∃ g D', Ab P g H ∧ t c D' σ g ∧ EnOk P D' D
def isComp : Expr → Bool
  | .ListComp .. | .SetComp .. | .DictComp .. => true
  | _ => false
theorem swap_no {e : Expr} {o : Option Expr} {l : Nat} {env : Env} (h : isComp e = false) : swapsWith e o l env = pure false := by
  cases e <;> first | rfl | (simp [isComp] at h)
def isTup : Expr → Bool
  | .Tuple .. => true
  | _ => false
theorem swapped_no {ts : List Expr} {e : Expr} {env : Env} (h : isTup e = false) : swappedStores ts e env = pure none := by
  unfold swappedStores
  split
  · rename_i hh
    split at hh
    · simp [isTup] at h
    · simp [isTup] at h
    · cases hh
  · rfl
theorem swapped_name {x : Str} {p : Pos} {e : Expr} {env : Env} : swappedStores [.Name x p] e env = pure none := by
  cases e <;> rfl
section
variable {P : Prm} {X : Cx} {c : Cal} {e a b o i : Expr} {es : List Expr} {ta tb te : T} {tl : TLs} {pos : Pos} {t u : TSt} {tt : TB} {st : Stmt} {sts : List Stmt}
theorem gs_nil : PSs X [] (RS P c sNext) := PSs.imp pss_nil fun D σ H ⟨g, D', A, h, k⟩ => k.nx _ _ _ h A
theorem gs_cons (h1 : PS X st (RS P c t)) (h2 : PSs X sts (RS P c u)) : PSs X (st :: sts) (RS P c (sSeq t u)) :=
  PSs.imp (pss_cons h1 h2) fun D σ H ⟨g, D', A, h, k⟩ => ⟨g, _, A, h, fun σ g H q A => ⟨g, D', A, q, k⟩, k.rt, k.bk, k.ct⟩
theorem gs_drop (he : PE X e (RE P c te)) (hn : isComp e = false) : PS X (.Expr e pos) (RS P c (sDrop te)) :=
  PS.imp (ps_expr he (swap_no hn)) fun D σ H ⟨g, D', A, h, k⟩ => ⟨g, _, A, h, fun v g H q A => k.nx _ _ _ q A⟩
theorem gs_ret (he : PE X e (RE P c te)) : PS X (.Return (some e) pos) (RS P c (sRet te)) :=
  PS.imp (ps_ret he) fun D σ H ⟨g, D', A, h, k⟩ => ⟨g, _, A, h, fun v g H q A => k.rt _ _ _ q A⟩
theorem gs_retN : PS X (.Return none pos) (RS P c sRetN) := PS.imp ps_retN fun D σ H ⟨g, D', A, h, k⟩ => k.rt _ _ _ h A
theorem gs_if {x y : List Stmt} (ht : PT X e (RB P c tt)) (h1 : PSs X x (RS P c t)) (h2 : PSs X y (RS P c u)) : PS X (.If e x y pos) (RS P c (sIf tt t u)) :=
  PS.imp (ps_if ht h1 h2) fun D σ H ⟨g, D', A, h, k⟩ => ⟨g, _, A, h, fun b g H q A => by
    cases b with
    | true => exact ⟨g, D', A, q, k⟩
    | false => exact ⟨g, D', A, q, k⟩⟩
theorem gs_brk : PS X (.Break pos) (RS P c sBrk) := PS.imp ps_break fun D σ H ⟨g, D', A, h, k⟩ => k.bk _ _ _ h A
theorem gs_pass : PS X (.Pass pos) (RS P c sNext) := PS.imp ps_pass fun D σ H ⟨g, D', A, h, k⟩ => k.nx _ _ _ h A
theorem gs_raise {n : Nat} (hE : c.er = botE) : PS X st (RS P c (sRaise n)) := PS.imp ps_never fun D σ H ⟨g, D', A, h, k⟩ => by
  unfold sRaise at h
  rw [hE] at h
  exact h
theorem gs_asg {tg : Expr} {tt : TTg} (he : PE X e (RE P c te)) (hg : PG X tg (RG P c tt)) (hn : isComp e = false) (hw : swappedStores [tg] e X.env = pure none) (hst : isStar tg = false) : PS X (.Assign [tg] e pos) (RS P c (sAsg te tt)) :=
  PS.imp (ps_asg he hg (swap_no hn) hw (by cases tg <;> first | rfl | (simp [isStar] at hst))) fun D σ H ⟨g, D', A, h, k⟩ => ⟨g, _, A, h, fun v g1 H q A1 => ⟨g1, _, A1, q, fun σ g H q A => k.nx _ _ _ q A⟩⟩
theorem gs_setAt (hK : X.K = P.K) (cl : Clss P) {f : Nat} {p' : Pos} (ho : PE X o (RE P c ta)) (he : PE X e (RE P c te)) (hn : isComp e = false) : PS X (.Assign [.Attribute o (anOf f) p'] e pos) (RS P c (sSetAt ta f te)) :=
  PS.imp (ps_fld ho he (swap_no hn)) fun D σ H ⟨g, D', A, h, k⟩ => ⟨g, _, A, h, fun v g1 H1 q A1 => ⟨g1, _, A1, q, fun x g2 H2 q2 A2 => by
    obtain ⟨p, cn, fs, ex, e1, hf, hl, q⟩ := q2
    obtain ⟨C, dx, z1, z2, z3⟩ := A2.ins e1
    rw [hK]
    have hf' := at_lt _ _ hf
    have z3' : ∀ p ∈ fs, p.1 < 21 := fun p hp => at_lt _ _ (z3 p hp)
    refine ⟨p, C, dx, nmF fs, ex, z2, cl.cl cn C z1, cl.na cn C f z1 hf, by simpa [nmF] using hl, k.nx _ _ _ q ?_⟩
    rw [← nmF_put hf' fs z3']
    exact A2.set e1 z2 (fun _ z => nomatch z) (fun _ _ z => nomatch z) fun _ => ⟨C, dx, z1, upd_same, putN_mem hf z3⟩⟩⟩
theorem gs_setIx (hu : X.A.units + 1 < cLine) {p' : Pos} (ho : PE X o (RE P c ta)) (hi : PE X i (RE P c tb)) (he : PE X e (RE P c te)) (hn : isComp e = false) : PS X (.Assign [.Subscript o i p'] e pos) (RS P c (sSetIx ta tb te)) := by
  refine ⟨fun pins s σ H D I ⟨g, D', A, h, k⟩ => ?_⟩
  refine wpAny_Assign_Subscript (thn (he.run pins s σ H (fun v H1 => ∃ g1, Ab P g1 H1 ∧ ta c σ g1 fun x g2 => tb c σ g2 fun y g3 => ∃ a, x = .ref a ∧
    ((∃ xs k j, y = .int k ∧ g3 a = some (.lst xs) ∧ ixN xs.length k = some j ∧ D'.nx σ (gu g3 a (.lst (xs.set j v)))) ∨ ∃ g4, dPut g3 a y v g4 ∧ D'.nx σ g4)) I ⟨g, _, A, h, fun v g1 H1 q A1 => ⟨g1, A1, q⟩⟩) fun r s1 ⟨v, H1, I1, rv, g1, A1, q1⟩ => ?_) (swap_no hn)
  refine thn (ho.run pins s1 σ H1 (fun x H2 => ∃ g2, Ab P g2 H2 ∧ tb c σ g2 fun y g3 => ∃ a, x = .ref a ∧
    ((∃ xs k j, y = .int k ∧ g3 a = some (.lst xs) ∧ ixN xs.length k = some j ∧ D'.nx σ (gu g3 a (.lst (xs.set j v)))) ∨ ∃ g4, dPut g3 a y v g4 ∧ D'.nx σ g4)) I1 ⟨g1, _, A1, q1, fun x g2 H2 q A2 => ⟨g2, A2, q⟩⟩) fun u s2 ⟨x, H2, I2, rx, g2, A2, q2⟩ => ?_
  refine thn (hi.run pins s2 σ H2 (fun y H3 => ∃ g3, Ab P g3 H3 ∧ ∃ a, x = .ref a ∧
    ((∃ xs k j, y = .int k ∧ g3 a = some (.lst xs) ∧ ixN xs.length k = some j ∧ D'.nx σ (gu g3 a (.lst (xs.set j v)))) ∨ ∃ g4, dPut g3 a y v g4 ∧ D'.nx σ g4)) I2 ⟨g2, _, A2, q2, fun y g3 H3 q A3 => ⟨g3, A3, q⟩⟩) fun iv s3 ⟨y, H3, I3, ry, g3, A3, a, ex, q3⟩ => ?_
  rcases q3 with ⟨xs, n, j, ey, el, hj, q⟩ | ⟨g4, d, q⟩
  · exact thn (set_list (X := X) pins s3 σ H3 x y v u iv r (fun H4 => D.nx σ H4) I3 rx ry rv ⟨a, xs, n, j, ex, ey, A3.lst el, hj, k.nx _ _ _ q (A3.setL el)⟩) fun _ s4 ⟨H4, I4, q4⟩ => ⟨σ, H4, I4, q4⟩
  · subst ex
    obtain rfl : u = Value.ref a := rx
    obtain ⟨H4, d', A4⟩ := A3.dput d
    exact d_setItem hu I3 d' ry rv fun s4 I4 => ⟨σ, H4, I4, k.nx _ _ _ q A4⟩
theorem passes_own {M : Model} {A : Around} {env : Env} {xe : Value → Shared → Prop} (h : xe = fun _ _ => False) : PassesOwn M A env xe := by
  subst h
  exact PassesOwn.never
theorem gs_while (hx : X.xe = fun _ _ => False) (ht : PT X e (RB P c tt)) (hb : PSs X sts (RS P c t)) : PS X (.While e sts [] pos) (RS P c (sWhile tt t)) := by
  refine PS.imp (ps_while (passes_own hx) ht hb) fun D σ H ⟨g, D', A, h, k⟩ => ?_
  obtain ⟨W, ⟨m0, w0⟩, turn⟩ := h
  refine ⟨fun m σ H => ∃ g, Ab P g H ∧ W m σ g, ⟨m0, g, A, w0⟩, ?_⟩
  rintro m σ1 H1 ⟨g1, A1, w1⟩
  refine ⟨g1, _, A1, turn m σ1 g1 w1, fun d g2 H2 q A2 => ?_⟩
  cases d with
  | true =>
    have ag : ∀ σ' g' H', (∃ m' g'', m' < m ∧ Sub g'' g' ∧ W m' σ' g'') → Ab P g' H' → ∃ m', m' < m ∧ ∃ g, Ab P g H' ∧ W m' σ' g := fun σ' g' H' ⟨m', g'', hm, hs, w⟩ A' => ⟨m', hm, g'', A'.sub hs, w⟩
    exact ⟨fun σ' H' => ∃ m', m' < m ∧ ∃ g, Ab P g H' ∧ W m' σ' g, fun σ' H' z => z, g2, _, A2, q, ag, k.rt, k.nx, ag⟩
  | false => exact k.nx _ _ _ q A2
theorem gs_for {tg iter : Expr} {src : TI} {tt : TTg} (hK : X.K = P.K) (hk : c.kl = P.kl) (hx : X.xe = fun _ _ => False) (hc : X.calm = true) (hi : PI X tg iter (RI P c src)) (hg : PG X tg (RG P c tt)) (hb : PSs X sts (RS P c t)) (hs : ∀ x, foldedSetIterable iter X.env x = pure x) :
    PS X (.For tg iter sts [] pos) (RS P c (sFor src tt t)) := by
  refine PS.imp (ps_for (passes_own hx) hc hi hg hb hs) fun D σ H ⟨g, D', A, h, k⟩ => ?_
  refine ⟨g, _, A, h, fun S g1 H1 q A1 J jok => ?_⟩
  obtain ⟨W, w0, turn⟩ := q
  refine ⟨fun i m σ H => m = S.len - i ∧ ∃ g, Ab P g H ∧ W i σ g, ⟨_, rfl, g1, A1, w0⟩, ?_⟩
  rintro i m σ2 H2 ⟨rfl, g2, A2, w2⟩
  obtain ⟨ok, tn⟩ := turn i σ2 g2 w2
  rw [hk] at ok
  by_cases hl : i < S.len
  · rw [if_pos hl] at tn
    refine .inr ⟨jok.go i g2 H2 A2 ok hl, fun σ' H' => ∃ g, Ab P g H' ∧ W (i + 1) σ' g, fun σ' H' ⟨g', A', w'⟩ => ⟨S.len - (i + 1), by omega, rfl, g', A', w'⟩, fun x H3 y => ?_⟩
    obtain ⟨g3, A3, q3⟩ := jok.yld i g2 H2 x H3 _ A2 ok hl tn y
    have ag : ∀ σ' g' H', (∃ g'', Sub g'' g' ∧ W (i + 1) σ' g'') → Ab P g' H' → ∃ g, Ab P g H' ∧ W (i + 1) σ' g := fun σ' g' H' ⟨g'', hs, w⟩ A' => ⟨g'', A'.sub hs, w⟩
    exact ⟨g3, _, A3, q3, fun σ4 g4 H4 q4 A4 => ⟨g4, _, A4, q4, ag, k.rt, k.nx, ag⟩⟩
  · rw [if_neg hl] at tn
    exact .inl ⟨jok.stop i g2 H2 A2 ok hl, k.nx _ _ _ tn A2⟩
/-! ### comprehensions -/
theorem lc_lo {src : TI} {tt : TTg} {tb' : TB} {own : List Nat} (hk : c.kl = P.kl) {σ : L2.St} {H : Hp} {Q : VK} (h : RE P c (eLc src tt tb' te own) σ H Q) :
    tLc (RI P c src) (RG P c tt) (RB P { c with er := botE } tb') (RE P { c with er := botE } te) own σ H Q := by
  obtain ⟨g, Q', A, h, i⟩ := h
  refine ⟨g, _, A, h, fun S g1 H1 q A1 J jok => ?_⟩
  intro D hD
  obtain ⟨W, w0, turn⟩ := q D (A1.fresh hD)
  refine ⟨fun i m H => m = S.len - i ∧ ∃ g acc, Ab P g H ∧ W i acc g, ⟨_, rfl, _, [], A1.newL hD, w0⟩, ?_⟩
  rintro n m H2 ⟨rfl, g2, acc, A2, w2⟩
  obtain ⟨ok, ed, tn⟩ := turn n acc g2 w2
  rw [hk] at ok
  by_cases hl : n < S.len
  · rw [if_pos hl] at tn
    refine .inr ⟨jok.go n g2 H2 A2 ok hl, fun H' => ∃ g acc, Ab P g H' ∧ W (n + 1) acc g, fun H' ⟨g', acc', A', w'⟩ => ⟨S.len - (n + 1), by omega, rfl, g', acc', A', w'⟩, fun x H3 y => ?_⟩
    obtain ⟨g3, A3, q3⟩ := jok.yld n g2 H2 x H3 _ A2 ok hl tn y
    refine ⟨g3, _, A3, q3, fun σ4 g4 H4 q4 A4 => ⟨q4.1, g4, _, A4, q4.2, fun d g5 H5 q5 A5 => ?_⟩⟩
    cases d with
    | true =>
      refine ⟨g5, _, A5, q5, fun y g6 H6 q6 A6 => ?_⟩
      obtain ⟨e6, hz, g7, hs, w7⟩ := q6
      exact ⟨acc, A6.lst e6, hz, g7, _, (A6.setL e6).sub hs, w7⟩
    | false =>
      obtain ⟨g7, hs, w7⟩ := q5
      exact ⟨g7, acc, A5.sub hs, w7⟩
  · rw [if_neg hl] at tn
    exact .inl ⟨jok.stop n g2 H2 A2 ok hl, i _ _ _ tn A2⟩
theorem g_lc {elt tg iter : Expr} {ifs : List Expr} {scope : Scope} {own : List (Str × Nat)} {src : TI} {tt : TTg} {tb' : TB} (hk : c.kl = P.kl) (hc : X.calm = true) (hN : X.N.Nodup) (hi : PI X tg iter (RI P c src)) (ok : BlkOk X.N X.env.scope scope own)
    (hg : ∀ (s : Shared) (H : Hp) (C : Addr) (cl : List (Str × Addr)) (fp : List Addr), PG (X.blk s H scope (compEnvC scope cl C X.env) fp) tg (RG P c tt))
    (ht : ∀ (s : Shared) (H : Hp) (C : Addr) (cl : List (Str × Addr)) (fp : List Addr), PTs (X.blk s H scope (compEnvC scope cl C X.env) fp) ifs (RB P { c with er := botE } tb'))
    (he : ∀ (s : Shared) (H : Hp) (C : Addr) (cl : List (Str × Addr)) (fp : List Addr), PE (X.blk s H scope (compEnvC scope cl C X.env) fp) elt (RE P { c with er := botE } te)) (hs : ∀ x, foldedSetIterable iter X.env x = pure x) :
    PE X (.ListComp elt [⟨tg, iter, ifs, 0⟩] scope pos) (RE P c (eLc src tt tb' te (own.map (·.2)))) :=
  PE.imp (pe_lc hc hN hi ok hg ht he hs) fun σ H Q h => lc_lo hk h
theorem gs_setLc {i : Nat} {x : Str} {p' spos : Pos} (hx : X.env.scope.names.lookup x = some .local) {elt tg iter : Expr} {ifs : List Expr} {scope : Scope} {own : List (Str × Nat)} {src : TI} {tt : TTg} {tb' : TB} (hk : c.kl = P.kl) (hc : X.calm = true) (hN : X.N.Nodup) (hy : X.N[i]? = some x)
    (hsw : swapsWith (.ListComp elt [⟨tg, iter, ifs, 0⟩] scope pos) (some (.Name x p')) spos.line X.env = pure true) (hi : PI X tg iter (RI P c src)) (ok : BlkOk X.N X.env.scope scope own)
    (hg : ∀ (s : Shared) (H : Hp) (C : Addr) (cl : List (Str × Addr)) (fp : List Addr), PG (X.blk s H scope (compEnvC scope cl C X.env) fp) tg (RG P c tt))
    (ht : ∀ (s : Shared) (H : Hp) (C : Addr) (cl : List (Str × Addr)) (fp : List Addr), PTs (X.blk s H scope (compEnvC scope cl C X.env) fp) ifs (RB P { c with er := botE } tb'))
    (he : ∀ (s : Shared) (H : Hp) (C : Addr) (cl : List (Str × Addr)) (fp : List Addr), PE (X.blk s H scope (compEnvC scope cl C X.env) fp) elt (RE P { c with er := botE } te)) (hs : ∀ x, foldedSetIterable iter X.env x = pure x) :
    PS X (.Assign [.Name x p'] (.ListComp elt [⟨tg, iter, ifs, 0⟩] scope pos) spos) (RS P c (sAsg (eLc src tt tb' te (own.map (·.2))) (gN i))) :=
  PS.imp (ps_setLc hc hN hy hx hsw hi ok hg ht he hs) fun D σ H ⟨g, D', A, h, k⟩ => by
    have z : RE P c (eLc src tt tb' te (own.map (·.2))) σ H fun v H' => D.nx (σ.set i (some v)) H' := ⟨g, _, A, h, fun v g' H' q A' => k.nx _ _ _ q A'⟩
    exact lc_lo hk z
end
end SW
end

section
set_option Elab.async false
set_option linter.all false
set_option maxRecDepth 100000
set_option maxHeartbeats 4000000
/-! A def's body as a reading, by a function; it is sound. -/
namespace SW
open PySem PySem.Spec PyProof.Rows L2
structure CE where
  sc : Scope
  N : List Str
  blk : Bool
  bis : List Str
  fns : List (Str × Nat)
  cls : List (Str × Nat × Nat)
  mts : List (Str × List (Nat × Nat))
  cst : List (Str × V)
  exc : List (Str × Nat)
structure CF where
  e : CE → Expr → Option T
  t : CE → Expr → Option TB
  s : CE → Stmt → Option TSt
def ixOf (N : List Str) (x : Str) : Option Nat := N.findIdx? (· == x)
theorem ixOf_get {N : List Str} {x : Str} {i : Nat} (h : ixOf N x = some i) : N[i]? = some x := by
  unfold ixOf at h
  rw [List.findIdx?_eq_some_iff_getElem] at h
  obtain ⟨hi, e, _⟩ := h
  rw [List.getElem?_eq_getElem hi]
  exact congrArg some (by simpa using e)
def isVis (sc : Scope) (x : Str) : Bool := match sc.names.lookup x with
  | some .local | some .cell | some .free => true
  | _ => false
def isGl (sc : Scope) (x : Str) : Bool := match sc.names.lookup x with
  | some .globalImplicit => true
  | _ => false
def special (x : Str) : Bool := x == ("__debug__" : Str) || x == ("__classdict__" : Str) || x == ("__name__" : Str)
/-- the slot of a name that is stored -/
def stIx (ce : CE) (x : Str) : Option Nat := match ce.sc.names.lookup x with
  | some .local => ixOf ce.N x
  | some .cell => if ce.blk then none else ixOf ce.N x
  | _ => none
def atIx (f : Str) : Option Nat := ixOf anL f
def cName (ce : CE) (x : Str) : Option T :=
  if special x then none
  else if isVis ce.sc x then (ixOf ce.N x).map eV
  else if isGl ce.sc x then (ce.cst.lookup x).map eC
  else none
def cConst : Const → Option V
  | .int i => some (.int i)
  | .bool b => some (.bl b)
  | .none => some .non
  | .str x => some (.str x)
  | _ => none
def boL (f : Expr → Option T) (op : BoolOp) : List Expr → Option T
  | [] => none
  | [a] => f a
  | a :: r => (f a).bind fun x => (boL f op r).map fun y => match op with
    | .And => eAnd x y
    | .Or => eOr x y
def twL (f : Expr → Option TB) (op : BoolOp) : List Expr → Option TB
  | [] => none
  | [a] => f a
  | a :: r => (f a).bind fun x => (twL f op r).map fun y => match op with
    | .And => tAnd x y
    | .Or => tOr x y
def arL (f : Expr → Option T) : List Expr → Option TLs
  | [] => some lNil
  | a :: r => if isStar a then none else (f a).bind fun x => (arL f r).map fun y => lCons x y
def chL (f : Expr → Option T) : List CmpOp → List Expr → Option (List (CmpOp × T))
  | [op], [b] => (f b).map fun x => [(op, x)]
  | op :: ops, b :: es => (f b).bind fun x => (chL f ops es).map fun r => (op, x) :: r
  | _, _ => none
def ssL (f : Stmt → Option TSt) : List Stmt → Option TSt
  | [] => some sNext
  | s :: r => (f s).bind fun x => (ssL f r).map fun y => sSeq x y
def nmL (ce : CE) : List Expr → Option (List Nat)
  | [] => some []
  | .Name x _ :: r => (stIx ce x).bind fun i => (nmL ce r).map fun is => i :: is
  | _ => none
def cTg (ce : CE) : Expr → Option TTg
  | .Name x _ => (stIx ce x).map gN
  | .Tuple es _ _ => (nmL ce es).map gTp
  | _ => none
def opO (f : Expr → Option T) : Option Expr → Option (Cal → L2.St → G → (Option Int → G → Prop) → Prop)
  | none => some oNone
  | some e => (f e).map oSome
def isSlice : Expr → Bool
  | .Slice .. => true
  | _ => false
def isSet : Expr → Bool
  | .Set .. => true
  | _ => false
def bi? (x : Str) : Option Bi :=
  if x = "len" then some .len else if x = "max" then some .max else if x = "min" then some .min else if x = "abs" then some .abs else if x = "sum" then some .sum
  else if x = "all" then some .all else none
def ty? (x : Str) : Option Bi :=
  if x = "int" then some .int else if x = "str" then some .str else if x = "list" then some .list else if x = "dict" then some .dict else none
def isi? (x : Str) : Option Bi :=
  if x = "int" then some .isint else if x = "bool" then some .isbool else if x = "str" then some .isstr else if x = "tuple" then some .istuple else if x = "list" then some .islist else none
def bmL : List Bm := [.append, .extend, .pop, .insert, .reverse, .get, .count, .join, .replace, .partition, .split, .rfind]
def isKnown : Expr → Bool
  | .Name x _ => x == ("known" : Str)
  | _ => false
def bm? (o : Expr) (m : Str) : Option Bm :=
  if m == ("pop" : Str) && isKnown o then some .popK else bmL.find? fun b => bmName b == m
def isBi (ce : CE) (x : Str) : Bool := isGl ce.sc x && decide (x ∈ ce.bis) && !special x
/-- list(zip(a, b)) -/
def lzip? (ce : CE) (x : Str) : List Expr → Option (Expr × Expr)
  | [.Call (.Name z _) [a, b] [] _] => if x == ("list" : Str) && z == ("zip" : Str) && isBi ce z && !isStar a && !isStar b then some (a, b) else none
  | _ => none
def cCallN (f : Expr → Option T) (ce : CE) (x : Str) (es : List Expr) : Option T :=
  if special x then none
  else if isGl ce.sc x then
    match ce.fns.lookup x with
    | some n => (arL f es).map fun a => eFn n a
    | none => match ce.cls.lookup x with
      | some (cn, n) => (arL f es).map fun a => eMk cn n a
      | none => if isBi ce x then
          match x == ("isinstance" : Str), es with
          | true, [e, .Name y _] => if isStar e || !isBi ce y then none else (isi? y).bind fun b => (f e).map fun t => eBi b (lCons t lNil)
          | true, _ => none
          | false, [] => none
          | false, e :: r => match lzip? ce x (e :: r) with
            | some ab => (f ab.1).bind fun u => (f ab.2).map fun v => eLzip u v
            | none => match bi? x with
              | some b => (arL f (e :: r)).map fun a => eBi b a
              | none => (ty? x).bind fun b => (arL f (e :: r)).map fun a => eBi b a
        else none
  else none
def cCallM (f : Expr → Option T) (ce : CE) (o : Expr) (m : Str) (apos pos : Pos) (es : List Expr) : Option T :=
  if baseOk o && decide (es.length < 30) && (apos.endLine == pos.line) then
    (f o).bind fun x => (arL f es).bind fun a => match ce.mts.lookup m with
      | some ms => some (eMt ms x a)
      | none => (bm? o m).map fun b => eBm b x a
  else none
def cSrc (f : Expr → Option T) (ce : CE) (tg : Expr) (it : Expr) : Option TI :=
  match it with
  | .Call (.Name x p) es [] pos =>
    if isBi ce x && (x == ("range" : Str)) then
      match es with
      | [a] => if isStar a then none else (f a).map fun u => iRng1 u
      | [a, b] => if isStar a || isStar b then none else (f a).bind fun u => (f b).map fun v => iRng2 u v
      | [a, b, d] => if isStar a || isStar b || isStar d then none else (f a).bind fun u => (f b).bind fun v => (f d).map fun w => iRng3 u v w
      | _ => none
    else if isBi ce x && (x == ("enumerate" : Str)) && isTup tg then
      match es with
      | [a] => if isStar a then none else (f a).map fun u => iEnm u
      | _ => none
    else if isBi ce x && (x == ("zip" : Str)) && isTup tg then
      match es with
      | [a, b] => if isStar a || isStar b then none else (f a).bind fun u => (f b).map fun v => iZip u v
      | _ => none
    else (f (.Call (.Name x p) es [] pos)).map fun u => iVal u
  | e => if isSet e then none else (f e).map fun u => iVal u
/-- a comprehension's own names -/
def ownOf (N : List Str) (scope : Scope) : List (Str × Nat) := scope.names.filterMap fun p => match p.2 with
  | .local | .cell => (ixOf N p.1).map fun i => (p.1, i)
  | _ => none
def ceB (ce : CE) (scope : Scope) : CE := { ce with sc := relS scope ce.sc, blk := true }
def cLc (r : CF) (ce : CE) (elt : Expr) (gs : List Comprehension) (scope : Scope) : Option T :=
  match gs with
  | [⟨tg, it, ifs, 0⟩] => if blkC ce.N ce.sc scope (ownOf ce.N scope) then
      (cSrc (r.e ce) ce tg it).bind fun src => (cTg (ceB ce scope) tg).bind fun g => (match ifs with
        | [] => some tYes
        | [t] => r.t (ceB ce scope) t
        | _ => none).bind fun tt => (r.e (ceB ce scope) elt).map fun te => eLc src g tt te ((ownOf ce.N scope).map fun p : Str × Nat => p.2)
    else none
  | _ => none
/-- the pairs of a display -/
def dspL (f : Expr → Option T) : List (Option Expr) → List Expr → Option (List (T × T))
  | [], [] => some []
  | some k :: ks, v :: vs => (f k).bind fun x => (f v).bind fun y => (dspL f ks vs).map fun r => (x, y) :: r
  | _, _ => none
def stepE (r : CF) (ce : CE) (e : Expr) : Option T :=
  match e with
  | .Name x _ => cName ce x
  | .Constant k _ _ => (cConst k).map eC
  | .BinOp a op b _ => (r.e ce a).bind fun x => (r.e ce b).map fun y => eBin op x y
  | .UnaryOp op a _ => match op with
    | .USub => (r.e ce a).map eNeg
    | .Not => (r.e ce a).map eNot
    | _ => none
  | .Compare a ops es _ => match ops, es with
    | [op], [b] => if behindInMarks op b then none else (r.e ce a).bind fun x => (r.e ce b).map fun y => eCmp op x y
    | op :: op' :: ops, b :: b' :: es => if lastMarks (op :: op' :: ops) (b :: b' :: es) then none else (r.e ce a).bind fun x => (chL (r.e ce) (op :: op' :: ops) (b :: b' :: es)).map fun y => eChn x y
    | _, _ => none
  | .BoolOp op es _ => boL (r.e ce) op es
  | .Tuple es _ _ => (arL (r.e ce) es).map eTup
  | .List es _ => (arL (r.e ce) es).map eLst
  | .Dict ks vs _ => match ks, vs with
    | [], [] => some eDict0
    | k :: ks, v :: vs => if (k :: ks).length ≤ 15 then (dspL (r.e ce) (k :: ks) (v :: vs)).map eDisp else none
    | _, _ => none
  | .Subscript a b _ => match b with
    | .Slice lo hi st _ => match st with
      | none => (r.e ce a).bind fun x => (opO (r.e ce) lo).bind fun l => (opO (r.e ce) hi).map fun h => eSl x l h
      | some _ => none
    | b => (r.e ce a).bind fun x => (r.e ce b).map fun y => eIx x y
  | .Attribute a f _ => if baseOk a then (atIx f).bind fun i => (r.e ce a).map fun x => eAt x i else none
  | .Call f es kws pos => match kws with
    | [] => match f with
      | .Name x _ => cCallN (r.e ce) ce x es
      | .Attribute o m apos => cCallM (r.e ce) ce o m apos pos es
      | _ => none
    | _ :: _ => none
  | .ListComp elt gs scope _ => cLc r ce elt gs scope
  | _ => none
def stepT (r : CF) (ce : CE) (e : Expr) : Option TB :=
  match e with
  | .UnaryOp op a _ => match op with
    | .Not => (r.t ce a).map tNot
    | _ => none
  | .BoolOp op es _ => twL (r.t ce) op es
  | .Compare a ops es _ => match ops, es with
    | [op], [b] => if behindInMarks op b then none else (r.e ce a).bind fun x => (r.e ce b).map fun y => tBl (eCmp op x y)
    | op :: op' :: ops, b :: b' :: es => if lastMarks (op :: op' :: ops) (b :: b' :: es) then none else (r.e ce a).bind fun x => (chL (r.e ce) (op :: op' :: ops) (b :: b' :: es)).map fun y => tBl (eChn x y)
    | _, _ => none
  | .Name x p => (r.e ce (.Name x p)).map tVal
  | .Call f es kws p => (r.e ce (.Call f es kws p)).map tVal
  | .Constant c k p => (r.e ce (.Constant c k p)).map tVal
  | _ => none
def cAsg (r : CF) (ce : CE) (tg : Expr) (e : Expr) (spos : Pos) : Option TSt :=
  match tg with
  | .Name x p => match e with
    | .ListComp elt gs scope pos => match ce.sc.names.lookup x, p.line == pos.line && !(scope.names.any fun y => y.1 == x && (y.2 == .local || y.2 == .cell)), gs with
      | some .local, true, [_] => (cLc r ce elt gs scope).bind fun t => (ixOf ce.N x).map fun i => sAsg t (gN i)
      | _, _, _ => none
    | e => if isComp e then none else (stIx ce x).bind fun i => (r.e ce e).map fun t => sAsg t (gN i)
  | .Tuple es _ _ => if isTup e || isComp e then none else (nmL ce es).bind fun is => (r.e ce e).map fun t => sAsg t (gTp is)
  | .Attribute o f _ => if isComp e then none else (atIx f).bind fun i => (r.e ce o).bind fun x => (r.e ce e).map fun t => sSetAt x i t
  | .Subscript o i _ => if isComp e || isSlice i then none else (r.e ce o).bind fun x => (r.e ce i).bind fun y => (r.e ce e).map fun t => sSetIx x y t
  | _ => none
def excOf (ce : CE) : Option Expr → Nat
  | some (.Call (.Name x _) _ _ _) => (ce.exc.lookup x).getD 0
  | _ => 0
def stepS (r : CF) (ce : CE) (s : Stmt) : Option TSt :=
  match s with
  | .Expr e _ => match e with
    | .Constant (.str _) _ _ => some sNext
    | e => if isComp e then none else (r.e ce e).map sDrop
  | .Return (some e) _ => (r.e ce e).map sRet
  | .Return none _ => some sRetN
  | .If t a b _ => (r.t ce t).bind fun x => (ssL (r.s ce) a).bind fun y => (ssL (r.s ce) b).map fun z => sIf x y z
  | .Assign tgs e pos => match tgs with
    | [tg] => cAsg r ce tg e pos
    | _ => none
  | .For tg it body orelse _ => match orelse with
    | [] => (cSrc (r.e ce) ce tg it).bind fun x => (cTg ce tg).bind fun g => (ssL (r.s ce) body).map fun b => sFor x g b
    | _ :: _ => none
  | .While t body orelse _ => match orelse with
    | [] => (r.t ce t).bind fun x => (ssL (r.s ce) body).map fun b => sWhile x b
    | _ :: _ => none
  | .Break _ => some sBrk
  | .Pass _ => some sNext
  | .Raise e _ _ => some (sRaise (excOf ce e))
  | _ => none
def cF : Nat → CF
  | 0 => ⟨fun _ _ => none, fun _ _ => none, fun _ _ => none⟩
  | n + 1 => ⟨stepE (cF n), stepT (cF n), stepS (cF n)⟩
/-- a def's body -/
def cBody (ce : CE) (b : List Stmt) : Option TSt := ssL ((cF 40).s ce) b

/-! ### it is sound -/
structure CtxOk (P : Prm) (c : Cal) (k : Nat) (X : Cx) (ce : CE) : Prop where
  K : X.K = P.K
  kl : c.kl = P.kl
  er : c.er = botE
  calm : X.calm = true
  xe : X.xe = fun _ _ => False
  kind : X.env.scope.kind = .function
  sc : X.env.scope = ce.sc
  N : X.N = ce.N
  nd : X.N.Nodup
  fn : ce.blk = false → ∀ x, X.fn x = true
  hr : Room (k + 1) X.A
  cl : Clss P
  bis : ∀ x, x ∈ ce.bis → X.mg x = none
  cst : ∀ x v, ce.cst.lookup x = some v → ∃ u, X.mg x = some u ∧ RelV v u
  fns : ∀ x f, ce.fns.lookup x = some f → ∃ fa, X.mg x = some (.ref fa) ∧ FnAt X P c k f fa
  cls : ∀ x cn f, ce.cls.lookup x = some (cn, f) → ∃ C fa, P.cls cn = some C ∧ X.mg x = some (.ref C) ∧ Mk X.K C fa ∧ FnAt X P c k f fa
  mts : ∀ m ms, ce.mts.lookup m = some ms → MtAt X P c k m ms
section
variable {P : Prm} {c : Cal} {k : Nat} {X : Cx} {ce : CE}
theorem CtxOk.hu (C : CtxOk P c k X ce) : X.A.units + 64 < cLine := by have := C.hr.un; omega
theorem CtxOk.gl (C : CtxOk P c k X ce) {x : Str} (h : isGl ce.sc x = true) : Gl X x := by
  unfold isGl at h
  split at h
  · rename_i e
    show X.env.scope.names.lookup x = _
    rw [C.sc]; exact e
  · cases h
theorem CtxOk.vis (C : CtxOk P c k X ce) {x : Str} (h : isVis ce.sc x = true) : Vis X.env.scope x := by
  unfold isVis at h
  rw [← C.sc] at h
  split at h
  · rename_i e; exact .inl e
  · rename_i e; exact .inr (.inl e)
  · rename_i e; exact .inr (.inr e)
  · cases h
theorem special_no {x : Str} (h : special x = false) : (x == ("__debug__" : Str)) = false ∧ (x == ("__classdict__" : Str)) = false ∧ x ≠ "__name__" := by
  unfold special at h
  rw [Bool.or_eq_false_iff, Bool.or_eq_false_iff] at h
  exact ⟨h.1.1, h.1.2, beq_eq_false_iff_ne.mp h.2⟩
theorem CtxOk.st (C : CtxOk P c k X ce) {x : Str} {i : Nat} (h : stIx ce x = some i) : X.N[i]? = some x ∧ Loc X.env.scope x ∧ (X.fn x = true ∨ X.env.scope.names.lookup x = some .local) := by
  unfold stIx at h
  rw [← C.sc, ← C.N] at h
  split at h
  · rename_i e; exact ⟨ixOf_get h, .inl e, .inr e⟩
  · rename_i e
    split at h
    · cases h
    · rename_i hb
      exact ⟨ixOf_get h, .inr e, .inl (C.fn (by simpa using hb) x)⟩
  · cases h
theorem CtxOk.blk (C : CtxOk P c k X ce) {scope : Scope} (hk : scope.kind = .function) (s : Shared) (H : Hp) (A : Addr) (cl : List (Str × Addr)) (fp : List Addr) : CtxOk P c k (X.blk s H scope (compEnvC scope cl A X.env) fp) (ceB ce scope) where
  K := C.K
  kl := C.kl
  er := C.er
  calm := C.calm
  xe := rfl
  kind := hk
  sc := by
    show relS scope X.env.scope = relS scope ce.sc
    rw [C.sc]
  N := C.N
  nd := C.nd
  fn := fun h => nomatch h
  hr := C.hr
  cl := C.cl
  bis := C.bis
  cst := C.cst
  fns := fun x f h => let ⟨fa, h1, h2⟩ := C.fns x f h; ⟨fa, h1, ⟨h2.ok, h2.kp⟩⟩
  cls := fun x cn f h => let ⟨A, fa, h1, h2, h3, h4⟩ := C.cls x cn f h; ⟨A, fa, h1, h2, h3, ⟨h4.ok, h4.kp⟩⟩
  mts := fun m ms h => let z := C.mts m ms h; ⟨fun cn f h1 B h2 => let ⟨fa, h3, h4⟩ := z.at_ cn f h1 B h2; ⟨fa, h3, ⟨h4.ok, h4.kp⟩⟩, z.ne⟩
end
/-- what a compiler is to keep -/
structure Good (P : Prm) (c : Cal) (k : Nat) (r : CF) : Prop where
  e : ∀ X ce e t, CtxOk P c k X ce → r.e ce e = some t → PE X e (RE P c t)
  t : ∀ X ce e t, CtxOk P c k X ce → r.t ce e = some t → PT X e (RB P c t)
  s : ∀ X ce s t, CtxOk P c k X ce → ce.blk = false → r.s ce s = some t → PS X s (RS P c t)
end SW
end

section
set_option Elab.async false
set_option linter.all false
set_option maxRecDepth 100000
set_option maxHeartbeats 4000000
/-! list(zip(a, b)) of two lists. -/
namespace SW
open PySem PySem.W PySem.Calls PyProof.Rows PyProof.V PySem.Spec
theorem zip_no_len : typeLookup (.type "zip") "__len__" = pure none := am_miss_of_fast (by decide +kernel)
theorem zip_no_hint : typeLookup (.type "zip") "__length_hint__" = pure none := am_miss_of_fast (by decide +kernel)
structure ZSt (h : Heap) (z TI TO i1 i2 l1 l2 S : Addr) (xs ys : Array Value) (i : Nat) : Prop where
  zs : (IsZip h z TI TO .none ∧ ∃ a b, IsPair h TO a b) ∨ ∃ T f oT, IsZipHeld h z TI TO T f ∧ h.get? T = some oT ∧ T ≠ z ∧ T ≠ i1 ∧ T ≠ i2 ∧ T ≠ S
  ti : IsPair h TI (.ref i1) (.ref i2)
  a1 : h.IsListIter i1 l1 i
  a2 : h.IsListIter i2 l2 i
  b1 : h.IsList l1 xs
  b2 : h.IsList l2 ys
/-- nothing but S is there twice -/
structure ZOff (S z TI TO i1 i2 l1 l2 : Addr) : Prop where
  z : z ≠ S
  TI : TI ≠ S
  TO : TO ≠ S
  i1 : i1 ≠ S
  i2 : i2 ≠ S
  l1 : l1 ≠ S
  l2 : l2 ≠ S
theorem ZSt.keep {h h' : Heap} {z TI TO i1 i2 l1 l2 S : Addr} {xs ys : Array Value} {i : Nat} (O : ZOff S z TI TO i1 i2 l1 l2) (k : ∀ b o, b ≠ S → h.get? b = some o → h'.get? b = some o) (st : ZSt h z TI TO i1 i2 l1 l2 S xs ys i) : ZSt h' z TI TO i1 i2 l1 l2 S xs ys i := by
  refine ⟨?_, k _ _ O.TI st.ti, st.a1.at fun o e => k _ o O.i1 e, st.a2.at fun o e => k _ o O.i2 e, ?_, ?_⟩
  · rcases st.zs with ⟨hz, a, b, ht⟩ | ⟨T, f, oT, hz, ht, n1, n2, n3, n4⟩
    · exact .inl ⟨k _ _ O.z hz, a, b, k _ _ O.TO ht⟩
    · exact .inr ⟨T, f, oT, k _ _ O.z hz, k _ _ n4 ht, n1, n2, n3, n4⟩
  · obtain ⟨o, ho, r⟩ := st.b1; exact ⟨o, k _ _ O.l1 ho, r⟩
  · obtain ⟨o, ho, r⟩ := st.b2; exact ⟨o, k _ _ O.l2 ho, r⟩
section
variable {prog : Program} {w : World} {A : Around} {E : Value → Shared → Prop} {s : Shared} {z TI TO i1 i2 l1 l2 S : Addr} {xs ys : Array Value} {i : Nat}
theorem nxtZ {x y : Value} {Q : Option Value → Shared → Prop} (D : ZipApart z TI TO i1 i2 l1 l2) (st : ZSt s.heap z TI TO i1 i2 l1 l2 S xs ys i) (hS : S < s.heap.objs.size) (hx : xs[i]? = some x) (hy : ys[i]? = some y)
    (hQ : ∀ h', ZSt h' z TI TO i1 i2 l1 l2 S xs ys (i + 1) → IsPair h' s.heap.objs.size x y → h'.objs.size = s.heap.objs.size + 1 → (∀ c o, c ≠ z → c ≠ TO → c ≠ i1 → c ≠ i2 → s.heap.get? c = some o → h'.get? c = some o) →
      Q (some (.ref s.heap.objs.size)) { s with heap := h' }) : wpAny (model prog w) A (pyNext (.ref z)) Q E s := by
  have lt : ∀ {c : Addr} {o : Obj}, s.heap.get? c = some o → s.heap.objs.size ≠ c := fun e => Nat.ne_of_gt (Heap.lt_size e)
  have il : ∀ {c l : Addr} {k : Nat}, s.heap.IsListIter c l k → s.heap.objs.size ≠ c := fun h => by obtain ⟨_, e, _⟩ := h; exact lt e
  have ll : ∀ {l : Addr} {vs : Array Value} {h' : Heap}, s.heap.IsList l vs → (∀ o, s.heap.get? l = some o → h'.get? l = some o) → h'.IsList l vs := fun h k => by obtain ⟨o, ho, r⟩ := h; exact ⟨o, k o ho, r⟩
  rcases st.zs with ⟨hz, a, b, ht⟩ | ⟨T, f, oT, hz, ht, n1, n2, n3, n4⟩
  · refine wpAny_pyNext_zip_item D hz st.ti ht st.a1 st.a2 st.b1 st.b2 hx hy fun h' g1 g2 g3 g4 g5 g6 g7 => ?_
    refine hQ h' ⟨.inr ⟨s.heap.objs.size, false, _, g1, g5, lt hz, il st.a1, il st.a2, Nat.ne_of_gt hS⟩, g7 _ _ D.TIz D.TITO D.TIi1 D.TIi2 st.ti, g3, g4, ll st.b1 fun o e => g7 _ o D.l1z D.l1TO D.l1i1 D.l1i2 e, ll st.b2 fun o e => g7 _ o D.l2z D.l2TO D.l2i1 D.l2i2 e⟩ g5 g6 g7
  · refine wpAny_pyNext_zip_item_held D hz ht st.ti st.a1 st.a2 st.b1 st.b2 hx hy fun h' g1 g3 g4 g5 g6 g7 => ?_
    refine hQ h' ⟨.inr ⟨T, true, oT, g1, g7 _ _ n1 n2 n3 ht, n1, n2, n3, n4⟩, g7 _ _ D.TIz D.TIi1 D.TIi2 st.ti, g3, g4, ll st.b1 fun o e => g7 _ o D.l1z D.l1i1 D.l1i2 e, ll st.b2 fun o e => g7 _ o D.l2z D.l2i1 D.l2i2 e⟩ g5 g6 fun c o c1 _ c3 c4 e => g7 c o c1 c3 c4 e
theorem finZ {Q : Option Value → Shared → Prop} (hh : A.handled = none) (D : ZipApart z TI TO i1 i2 l1 l2) (st : ZSt s.heap z TI TO i1 i2 l1 l2 S xs ys i) (hend : xs[i]? = none ∨ ys[i]? = none)
    (hQ : ∀ h', (∀ c o, c ≠ z → c ≠ TO → c ≠ i1 → c ≠ i2 → s.heap.get? c = some o → h'.get? c = some o) → Q none { s with heap := h' }) : wpAny (model prog w) A (pyNext (.ref z)) Q E s := by
  rcases st.zs with ⟨hz, a, b, ht⟩ | ⟨T, f, oT, hz, ht, n1, n2, n3, n4⟩
  · exact wpAny_pyNext_zip_end hh D hz st.ti ht st.a1 st.a2 st.b1 st.b2 hend hQ
  · exact wpAny_pyNext_zip_end_held hh D hz ht st.ti st.a1 st.a2 st.b1 st.b2 hend fun h' k => hQ h' fun c o c1 _ c3 c4 e => k c o c1 c3 c4 e
end
/-- the pairs that were made -/
structure MadeZ (xs ys : Array Value) (lo : Addr) (h : Heap) (as : List Addr) : Prop where
  rise : as.Pairwise (· < ·)
  above : ∀ a ∈ as, lo ≤ a
  pairs : ∀ (j : Nat) (a : Addr), as[j]? = some a → ∃ x y, xs[j]? = some x ∧ ys[j]? = some y ∧ IsPair h a x y
theorem MadeZ.there {xs ys : Array Value} {lo : Addr} {h : Heap} {as : List Addr} (g : MadeZ xs ys lo h as) {a : Addr} (ha : a ∈ as) : a < h.objs.size := by
  obtain ⟨j, hj⟩ := List.mem_iff_getElem?.mp ha
  obtain ⟨_, _, _, _, e⟩ := g.pairs j a hj
  exact Heap.lt_size e
section
variable {prog : Program} {w : World} {A : Around} {s : Shared} {R : Result → Shared → Prop} {z TI TO i1 i2 l1 l2 S : Addr} {xs ys : Array Value}
theorem loopZ (hh : A.handled = none) (D : ZipApart z TI TO i1 i2 l1 l2) (O : ZOff S z TI TO i1 i2 l1 l2) {lo : Addr} (zb : z < lo) (tb : TO < lo) (ib : i1 < lo) (jb : i2 < lo) (Sb : S < lo) (hn : min xs.size ys.size ≤ sizeLine) (res : Value) {h₁ : Heap}
    (hR : ∀ h' tk acc c as, (∀ b o, b ≠ S → b ≠ z → b ≠ TO → b ≠ i1 → b ≠ i2 → h₁.get? b = some o → h'.get? b = some o) → h'.get? S = some { cls := .type "list", dict := none, data := .seq acc c, slots := #[] } → as.length = min xs.size ys.size → MadeZ xs ys lo h' as →
      acc.toList = as.map Value.ref → R (.ok (.ret res)) { s with heap := h', toks := tk }) :
    ∀ (k i : Nat) (h : Heap) (tk c : Nat) (acc : Array Value) (as : List Addr), min xs.size ys.size - i = k → i ≤ min xs.size ys.size → ZSt h z TI TO i1 i2 l1 l2 S xs ys i →
      (∀ b o, b ≠ S → b ≠ z → b ≠ TO → b ≠ i1 → b ≠ i2 → h₁.get? b = some o → h.get? b = some o) →
      h.get? S = some { cls := .type "list", dict := none, data := .seq acc c, slots := #[] } → acc.toList = as.map Value.ref → as.length = i → MadeZ xs ys lo h as → lo ≤ h.objs.size →
      codeAny (model prog w) A (.builtin "list.extend.loop" ⟨[.ref S, .ref z, res], []⟩) R { s with heap := h, toks := tk } := by
  intro k
  induction k with
  | zero =>
    intro i h tk c acc as hk hi hst hkeep hS hacc hal hG hlo
    refine codeAny_builtin PySem.F.entry_extend_loop ?_
    rw [Around.under_plainId PySem.F.plain_extend_loop _]
    show wpAny _ A.in1 (pyNext (.ref z) >>= _) _ _ _
    have hend : xs[i]? = none ∨ ys[i]? = none := by
      rw [Array.getElem?_eq_none_iff, Array.getElem?_eq_none_iff]; omega
    refine wpAny_bind (finZ (s := { s with heap := h, toks := tk }) (A := A.in1) hh D hst hend fun h' he => ?_)
    refine wpAny_pure (hR h' tk acc c as (fun b o h1 h2 h3 h4 h5 e => he b o h2 h3 h4 h5 (hkeep b o h1 h2 h3 h4 h5 e)) (he S _ (Ne.symm O.z) (Ne.symm O.TO) (Ne.symm O.i1) (Ne.symm O.i2) hS) (by omega) ⟨hG.rise, hG.above, fun j a hj => ?_⟩ hacc)
    obtain ⟨x, y, e1, e2, e3⟩ := hG.pairs j a hj
    have hb := hG.above a (List.mem_of_getElem? hj)
    exact ⟨x, y, e1, e2, he a _ (Nat.ne_of_gt (Nat.lt_of_lt_of_le zb hb)) (Nat.ne_of_gt (Nat.lt_of_lt_of_le tb hb)) (Nat.ne_of_gt (Nat.lt_of_lt_of_le ib hb)) (Nat.ne_of_gt (Nat.lt_of_lt_of_le jb hb)) e3⟩
  | succ k ih =>
    intro i h tk c acc as hk hi hst hkeep hS hacc hal hG hlo
    have hlt : i < min xs.size ys.size := by omega
    have hsz : acc.size = i := by rw [← Array.length_toList, hacc, List.length_map, hal]
    have hx : xs[i]? = some xs[i] := Array.getElem?_eq_getElem (by omega)
    have hy : ys[i]? = some ys[i] := Array.getElem?_eq_getElem (by omega)
    refine codeAny_builtin PySem.F.entry_extend_loop ?_
    rw [Around.under_plainId PySem.F.plain_extend_loop _]
    show wpAny _ A.in1 (pyNext (.ref z) >>= _) _ _ _
    refine wpAny_bind (nxtZ (s := { s with heap := h, toks := tk }) (S := S) D hst (Heap.lt_size hS) hx hy fun h' hst' ht hz hkp => ?_)
    dsimp only at ht hz hkp ⊢
    have hS' := hkp S _ (Ne.symm O.z) (Ne.symm O.TO) (Ne.symm O.i1) (Ne.symm O.i2) hS
    have up : ∀ b o, b ≠ S → h'.get? b = some o → (h'.update S (Obj.mapSeq (·.push (Value.ref h.objs.size)))).get? b = some o := fun b o hb e => (Heap.get?_update_other _ _ (Ne.symm hb)).trans e
    have hSl : S < h.objs.size := Heap.lt_size hS
    show wpAny _ A.in1 (updateSeq S (·.push (Value.ref h.objs.size)) >>= _) _ _ _
    refine wpAny_bind ?_
    refine wpAny_updateSeq hS' rfl (wpAny_pure ⟨plainId_quiet PySem.F.plain_extend_loop _, ih (i + 1) _ tk _ (acc.push (Value.ref h.objs.size)) (as ++ [h.objs.size]) (by omega) hlt (hst'.keep O up)
      (fun b o h1 h2 h3 h4 h5 e => up b o h1 (hkp b o h2 h3 h4 h5 (hkeep b o h1 h2 h3 h4 h5 e))) (Heap.get?_update_self _ hS' rfl) (by rw [Array.toList_push, hacc, List.map_append]; rfl) (by rw [List.length_append, hal]; rfl) ⟨?_, ?_, ?_⟩ ?_⟩) (by rw [hsz]; omega) (by show (acc.push (Value.ref h.objs.size)).size ≤ sizeLine + 1; rw [Array.size_push, hsz]; omega)
    · refine List.pairwise_append.mpr ⟨hG.rise, List.pairwise_singleton _ _, fun a ha b hb => ?_⟩
      rw [List.mem_singleton.mp hb]
      exact hG.there ha
    · intro a ha
      rcases List.mem_append.mp ha with ha | ha
      · exact hG.above a ha
      · rw [List.mem_singleton.mp ha]; exact hlo
    · intro j b hj
      rcases Nat.lt_trichotomy j as.length with h1 | h1 | h1
      · rw [List.getElem?_append_left h1] at hj
        obtain ⟨x, y, e1, e2, e3⟩ := hG.pairs j b hj
        have hb := hG.above b (List.mem_of_getElem? hj)
        exact ⟨x, y, e1, e2, up b _ (Nat.ne_of_gt (Nat.lt_of_lt_of_le Sb hb)) (hkp b _ (Nat.ne_of_gt (Nat.lt_of_lt_of_le zb hb)) (Nat.ne_of_gt (Nat.lt_of_lt_of_le tb hb)) (Nat.ne_of_gt (Nat.lt_of_lt_of_le ib hb)) (Nat.ne_of_gt (Nat.lt_of_lt_of_le jb hb)) e3)⟩
      · subst h1
        have hb : h.objs.size = b := by simpa using hj
        subst hb
        rw [hal]
        exact ⟨_, _, hx, hy, up _ _ (Nat.ne_of_gt hSl) ht⟩
      · have hnone : (as ++ [h.objs.size])[j]? = none := List.getElem?_eq_none (by rw [List.length_append, List.length_singleton]; omega)
        rw [hnone] at hj; cases hj
    · have e : (h'.update S (Obj.mapSeq (·.push (Value.ref h.objs.size)))).get? h.objs.size = _ := up _ _ (Nat.ne_of_gt hSl) ht
      exact Nat.le_of_lt (Nat.lt_of_le_of_lt hlo (Heap.lt_size e))
end
section
variable {prog : Program} {w : World} {A : Around} {E : Value → Shared → Prop} {s : Shared} {z TI TO i1 i2 l1 l2 : Addr} {xs ys : Array Value}
theorem extZ {R : Result → Shared → Prop} (hh : A.handled = none) (D : ZipApart z TI TO i1 i2 l1 l2) (S : Addr) (O : ZOff S z TI TO i1 i2 l1 l2) (res : Value) (c₀ : Nat) (hS : s.heap.get? S = some { cls := .type "list", data := .seq #[] c₀ })
    (hz : IsZip s.heap z TI TO .none) (hTI : IsPair s.heap TI (.ref i1) (.ref i2)) {a b : Value} (hTO : IsPair s.heap TO a b) (h1 : s.heap.IsListIter i1 l1 0) (h2 : s.heap.IsListIter i2 l2 0) (hl1 : s.heap.IsList l1 xs) (hl2 : s.heap.IsList l2 ys)
    (hR : ∀ h' tk acc c as, (∀ b o, b ≠ S → b ≠ z → b ≠ TO → b ≠ i1 → b ≠ i2 → s.heap.get? b = some o → h'.get? b = some o) → h'.get? S = some { cls := .type "list", dict := none, data := .seq acc c, slots := #[] } → as.length = min xs.size ys.size → MadeZ xs ys s.heap.objs.size h' as →
      acc.toList = as.map Value.ref → R (.ok (.ret res)) { s with heap := h', toks := tk }) (hn : min xs.size ys.size ≤ sizeLine) :
    wpAny (model prog w) A.in1 (Builtin.List.listExtendWith (.ref S) (.ref z) res)
      (fun fin s' => match fin with | .done f => R (.ok f) s' | .again c' => c'.quiet = true ∧ codeAny (model prog w) A c' R s') (fun e s' => R (.error e) s') s := by
  have hT : s.TypeIs (.ref z) "zip" := ⟨_, hz, rfl⟩
  have il : ∀ {c l : Addr} {k : Nat}, s.heap.IsListIter c l k → c < s.heap.objs.size := fun h => by obtain ⟨_, e, _⟩ := h; exact Heap.lt_size e
  unfold Builtin.List.listExtendWith
  refine wpAny_bind (wpAny_typeOf hT ?_)
  have e1 : Builtin.List.listSameRef (.ref S) (.ref z) = false := by simp [Builtin.List.listSameRef, Ne.symm O.z]
  have e2 : (Value.type "zip" == Value.type "list") = false := by decide
  have e3 : (Value.type "zip" == Value.type "tuple") = false := by decide
  simp only [e1, e2, e3, Bool.or_false, Bool.false_eq_true, if_false]
  refine wpAny_bind (wpAny_pyIter_zip hz ?_)
  refine wpAny_bind (wpAny_holding ?_)
  unfold Builtin.List.listLengthHint
  refine wpAny_bind (wpAny_specialOf hT zip_no_len ?_)
  show wpAny _ A.in1 (specialOf (Value.ref z) (Str.ofString "__length_hint__") >>= _) _ _ _
  refine wpAny_bind (wpAny_specialOf hT zip_no_hint ?_)
  refine wpAny_pure ?_
  show wpAny _ A.in1 (rule "list.extend.makes-room" >>= fun _ => Builtin.List.listTouch (.ref S) >>= fun _ =>
    again (.builtin "list.extend.loop" ⟨[.ref S, .ref z, res], []⟩)) _ _ _
  refine wpAny_bind (wpAny_rule ?_)
  refine wpAny_bind ?_
  show wpAny _ A.in1 (updateSeq S (·.push .none) >>= fun _ => updateSeq S (·.pop)) _ _ _
  refine wpAny_bind (wpAny_updateSeq hS rfl ?_)
  have hS₂ := Heap.get?_update_self (Obj.mapSeq (·.push Value.none)) hS rfl
  refine wpAny_updateSeq (hz := by seq_fits) hS₂ rfl ?_
  have hS₃ := Heap.get?_update_self (Obj.mapSeq (·.pop)) hS₂ rfl
  have oth : ∀ b o, b ≠ S → s.heap.get? b = some o → ((s.heap.update S (Obj.mapSeq (·.push Value.none))).update S (Obj.mapSeq (·.pop))).get? b = some o :=
    fun b o hb e => (Heap.get?_update_other _ _ (Ne.symm hb)).trans ((Heap.get?_update_other _ _ (Ne.symm hb)).trans e)
  have hsz : s.heap.objs.size ≤ ((s.heap.update S (Obj.mapSeq (·.push Value.none))).update S (Obj.mapSeq (·.pop))).objs.size := by simp
  refine wpAny_pure ⟨plainId_quiet PySem.F.plain_extend_loop _, ?_⟩
  refine loopZ (s := s) (h₁ := s.heap) (lo := s.heap.objs.size) hh D O (Heap.lt_size hz) (Heap.lt_size hTO) (il h1) (il h2) (Heap.lt_size hS) hn res hR
    _ 0 _ _ _ #[] [] rfl (Nat.zero_le _) (ZSt.keep O oth ⟨.inl ⟨hz, _, _, hTO⟩, hTI, h1, h2, hl1, hl2⟩) (fun b o h1 _ _ _ _ e => oth b o h1 e) hS₃ rfl rfl
    ⟨List.Pairwise.nil, (fun _ ha => nomatch ha), (fun j a hj => by simp at hj)⟩ hsz
theorem initZ {R : Result → Shared → Prop} (hh : A.handled = none) (D : ZipApart z TI TO i1 i2 l1 l2) (S : Addr) (O : ZOff S z TI TO i1 i2 l1 l2) (hS : s.heap.get? S = some { cls := .type "list", data := .seq #[] })
    (hz : IsZip s.heap z TI TO .none) (hTI : IsPair s.heap TI (.ref i1) (.ref i2)) {a b : Value} (hTO : IsPair s.heap TO a b) (h1 : s.heap.IsListIter i1 l1 0) (h2 : s.heap.IsListIter i2 l2 0) (hl1 : s.heap.IsList l1 xs) (hl2 : s.heap.IsList l2 ys)
    (hR : ∀ h' tk acc c as, (∀ b o, b ≠ S → b ≠ z → b ≠ TO → b ≠ i1 → b ≠ i2 → s.heap.get? b = some o → h'.get? b = some o) → h'.get? S = some { cls := .type "list", dict := none, data := .seq acc c, slots := #[] } → as.length = min xs.size ys.size → MadeZ xs ys s.heap.objs.size h' as →
      acc.toList = as.map Value.ref → R (.ok (.ret .none)) { s with heap := h', toks := tk }) (hn : min xs.size ys.size ≤ sizeLine) :
    wpAny (model prog w) A.in1 (Builtin.«list.__init__» ⟨[.ref S, .ref z], []⟩)
      (fun fin s' => match fin with | .done f => R (.ok f) s' | .again c' => c'.quiet = true ∧ codeAny (model prog w) A c' R s') (fun e s' => R (.error e) s') s := by
  show wpAny _ A.in1 (do let old ← Builtin.List.listItems (.ref S); Builtin.List.listUpdate (.ref S) (fun _ => #[]); letGo old.toList.reverse; Builtin.List.listExtendWith (.ref S) (.ref z) .none) _ _ s
  refine wpAny_bind ?_
  unfold Builtin.List.listItems
  refine wpAny_bind (wpAny_seqItems hS rfl (wpAny_pure ?_))
  show wpAny _ A.in1 (updateSeq S (fun _ => #[]) >>= fun _ => letGo (#[] : Array Value).toList.reverse >>= fun _ => Builtin.List.listExtendWith (.ref S) (.ref z) .none) _ _ s
  refine wpAny_bind (wpAny_updateSeq hS rfl ?_)
  have hS₂ := Heap.get?_update_self (Obj.mapSeq (fun _ => (#[] : Array Value))) hS rfl
  have oth : ∀ b o, b ≠ S → s.heap.get? b = some o → (s.heap.update S (Obj.mapSeq (fun _ => (#[] : Array Value)))).get? b = some o :=
    fun b o hb e => (Heap.get?_update_other _ _ (Ne.symm hb)).trans e
  have K := ZSt.keep O oth ⟨.inl ⟨hz, _, _, hTO⟩, hTI, h1, h2, hl1, hl2⟩
  refine wpAny_bind (wpAny_letGo ?_)
  have hsz : (s.heap.update S (Obj.mapSeq (fun _ => (#[] : Array Value)))).objs.size = s.heap.objs.size := by simp
  refine extZ hh D S O .none _ hS₂ (oth _ _ O.z hz) (oth _ _ O.TI hTI) (oth _ _ O.TO hTO) K.a1 K.a2 K.b1 K.b2 (fun h' tk acc c as k e1 e2 e3 e4 => ?_) hn
  refine hR h' tk acc c as (fun b o h1 h2 h3 h4 h5 e => k b o h1 h2 h3 h4 h5 (oth b o h1 e)) e1 e2 ?_ e4
  have := e3
  dsimp only at this
  rw [hsz] at this
  exact this
/-- list(z) -/
theorem listZ {Q : Value → Shared → Prop} (hh : A.handled = none) (D : ZipApart z TI TO i1 i2 l1 l2)
    (hz : IsZip s.heap z TI TO .none) (hTI : IsPair s.heap TI (.ref i1) (.ref i2)) {a b : Value} (hTO : IsPair s.heap TO a b) (h1 : s.heap.IsListIter i1 l1 0) (h2 : s.heap.IsListIter i2 l2 0) (hl1 : s.heap.IsList l1 xs) (hl2 : s.heap.IsList l2 ys) (hn : min xs.size ys.size ≤ sizeLine)
    (hQ : ∀ h' tk acc c as, (∀ b o, b ≠ z → b ≠ TO → b ≠ i1 → b ≠ i2 → s.heap.get? b = some o → h'.get? b = some o) → h'.get? s.heap.objs.size = some { cls := .type "list", dict := none, data := .seq acc c, slots := #[] } → as.length = min xs.size ys.size → MadeZ xs ys (s.heap.objs.size + 1) h' as →
      acc.toList = as.map Value.ref → Q (.ref s.heap.objs.size) { s with heap := h', toks := tk }) :
    wpAny (model prog w) A (call (.type "list") [.ref z]) Q E s := by
  have il : ∀ {c l : Addr} {k : Nat}, s.heap.IsListIter c l k → c ≠ s.heap.objs.size := fun h => by obtain ⟨_, e, _⟩ := h; exact Nat.ne_of_lt (Heap.lt_size e)
  have ll : ∀ {l : Addr} {vs : Array Value}, s.heap.IsList l vs → l ≠ s.heap.objs.size := fun h => by obtain ⟨_, e, _⟩ := h; exact Nat.ne_of_lt (Heap.lt_size e)
  have O : ZOff s.heap.objs.size z TI TO i1 i2 l1 l2 := ⟨Nat.ne_of_lt (Heap.lt_size hz), Nat.ne_of_lt (Heap.lt_size hTI), Nat.ne_of_lt (Heap.lt_size hTO), il h1, il h2, ll hl1, ll hl2⟩
  have up : ∀ b o, s.heap.get? b = some o → (s.heap.push { cls := .type "list", data := .seq #[] }).get? b = some o := fun b o e => Heap.get?_push_of_some _ e
  refine callType_codes (Q₁ := fun obj s₁ => obj = .ref s.heap.objs.size ∧ s₁ = { s with heap := s.heap.push { cls := .type "list", data := .seq #[] } }) F.called_list (F.typeCall_list_1 _) F.entry_list_init
    (code_list_new _ ⟨rfl, rfl⟩) fun obj s₁ h₁ => ?_
  obtain ⟨rfl, rfl⟩ := h₁
  have hS : (s.heap.push { cls := .type "list", data := .seq #[] }).get? s.heap.objs.size = some { cls := .type "list", data := .seq #[] } := Heap.get?_push_size _ rfl
  have K := ZSt.keep (h' := s.heap.push { cls := .type "list", data := .seq #[] }) O (fun b o _ e => up b o e) ⟨.inl ⟨hz, _, _, hTO⟩, hTI, h1, h2, hl1, hl2⟩
  refine ⟨⟨_, hS, rfl⟩, F.args_list_init_2 _ _, initZ (A := A.in1) (s := { s with heap := s.heap.push { cls := .type "list", data := .seq #[] } }) (R := wants (fun r s₂ => r = Value.none ∧ Q (Value.ref s.heap.objs.size) s₂) E) (show A.in1.handled = none from hh) D _ O hS (up _ _ hz) (up _ _ hTI) (up _ _ hTO) K.a1 K.a2 K.b1 K.b2 (fun h' tk acc c as k e1 e2 e3 e4 => ?_) hn⟩
  refine ⟨rfl, hQ h' tk acc c as (fun b o h1 h2 h3 h4 e => k b o (Nat.ne_of_lt (Heap.lt_size e)) h1 h2 h3 h4 (up b o e)) e1 e2 ?_ e4⟩
  have := e3
  dsimp only at this
  rw [Heap.size_push] at this
  exact this
end
end SW
end

section
set_option Elab.async false
set_option linter.all false
set_option maxRecDepth 100000
set_option maxHeartbeats 4000000
/-! list(zip(a, b)), as a reading. -/
namespace SW
open PySem PySem.Spec PyProof.Rows L2
/-- new tuples on the hand layer's heap -/
def zipUp : Hp → List (V × V) → List Addr → Hp
  | H, p :: ps, a :: as => zipUp (upd H a (.tup [p.1, p.2])) ps as
  | H, _, _ => H
theorem zipUp_ne : ∀ {ps : List (V × V)} {as : List Addr} {H : Hp} {b : Addr}, b ∉ as → zipUp H ps as b = H b
  | [], [], H, b, _ => rfl
  | [], _ :: _, H, b, _ => rfl
  | _ :: _, [], H, b, _ => rfl
  | p :: ps, a :: as, H, b, h => by
    unfold zipUp
    rw [List.mem_cons, not_or] at h
    rw [zipUp_ne h.2, upd_ne h.1]
theorem zipUp_at : ∀ {ps : List (V × V)} {as : List Addr} {H : Hp} {j : Nat} {a : Addr} {p : V × V}, as.Nodup → as[j]? = some a → ps[j]? = some p → zipUp H ps as a = some (.tup [p.1, p.2])
  | [], as, H, j, a, p, _, _, h => by simp at h
  | _ :: _, [], H, j, a, p, _, h, _ => by simp at h
  | q :: ps, b :: as, H, 0, a, p, nd, h1, h2 => by
    simp at h1 h2
    subst h1 h2
    rw [List.nodup_cons] at nd
    unfold zipUp
    rw [zipUp_ne nd.1, upd_same]
  | q :: ps, b :: as, H, j + 1, a, p, nd, h1, h2 => by
    rw [List.nodup_cons] at nd
    unfold zipUp
    exact zipUp_at nd.2 (by simpa using h1) (by simpa using h2)
theorem zip_abs {P : Prm} : ∀ {ps : List (V × V)} {as : List Addr} {H : Hp} {g : G} {K : List Addr → G → Prop}, Ab P g H → as.Nodup → (∀ a ∈ as, H a = none) → as.length = ps.length → zipNew ps g K → ∃ g', K as g' ∧ Ab P g' (zipUp H ps as)
  | [], [], H, g, K, A, _, _, _, h => ⟨g, h, A⟩
  | [], _ :: _, _, _, _, _, _, _, h, _ => by simp at h
  | _ :: _, [], _, _, _, _, _, _, h, _ => by simp at h
  | p :: ps, a :: as, H, g, K, A, nd, fr, hl, h => by
    rw [List.nodup_cons] at nd
    have ha := fr a List.mem_cons_self
    have h2 := h a (A.fresh ha)
    obtain ⟨g', k, A'⟩ := zip_abs (A.newU (xs := [p.1, p.2]) ha) nd.2 (fun b hb => by
      have hne : b ≠ a := fun z => nd.1 (z ▸ hb)
      rw [upd_ne hne]; exact fr b (List.mem_cons_of_mem _ hb)) (by simpa using hl) h2
    exact ⟨g', k, A'⟩
theorem MadeZ.nat {xs ys : Array Value} {lo : Addr} {h : Heap} {as : List Addr} (g : MadeZ xs ys lo h as) {b : Addr} (hm : b ∈ as) : @LE.le Nat _ lo b := g.above b hm
section
variable {P : Prm} {X : Cx} {c : Cal} {a b : Expr} {ta tb : T} {pos : Pos}
theorem vals_refs' : ∀ bs : List Addr, Vals (bs.map V.ref) (bs.map Value.ref)
  | [] => .nil
  | _ :: r => .cons rfl (vals_refs' r)
theorem nodup_lt {as : List Addr} (h : as.Pairwise (· < ·)) : as.Nodup := h.imp fun h => Nat.ne_of_lt h
theorem g_lzip (hK : X.K = P.K) (hk : c.kl = P.kl) (hcalm : X.calm = true) {p p2 pos2 : Pos} (hgl : Gl X "list") (hml : X.mg "list" = none) (hgz : Gl X "zip") (hmz : X.mg "zip" = none)
    (ha : PE X a (RE P c ta)) (hb : PE X b (RE P c tb)) (h1 : isStar a = false) (h2 : isStar b = false) :
    PE X (.Call (.Name "list" p) [.Call (.Name "zip" p2) [a, b] [] pos2] [] pos) (RE P c (eLzip ta tb)) := by
  refine ⟨fun pins s σ H Q I ⟨g, Q', A, h, i⟩ => ?_⟩
  refine wpAny_Call_Name_kw (ld_blt I hgl hml PyProof.Rows.boot_list ?_)
  refine PyProof.Rows.callWith_type1 ?_ (star_cons rfl) (star_any rfl)
  rw [star_cons rfl]
  show wpAny _ _ (spliced ((false, eval (.Call (.Name "zip" p2) [a, b] [] pos2) X.env) :: backTo pos (starEach [] X.env))) _ _ s
  refine Calls.spliced_cons ?_
  have args := (pa_cons ha (pa_cons hb pa_nil (star_cons h2)) (star_cons h1)).run pos2 pins s σ H (fun vs H2 => ∃ g2 x y, vs = [x, y] ∧ Ab P g2 H2 ∧ ∃ p q xs ys, x = .ref p ∧ y = .ref q ∧ Ls c.kl g2 p xs ∧ Ls c.kl g2 q ys ∧
    zipNew (xs.zip ys) g2 fun as g3 => ∀ D, g3 D = none → Q' (.ref D) (gu g3 D (.lst (as.map V.ref)))) I
    ⟨g, _, A, h, fun x g1 H1 q1 A1 => ⟨g1, _, A1, q1, fun y g2 H2 q2 A2 => ⟨g2, x, y, rfl, A2, q2⟩⟩⟩
  refine wpAny_Call_Name_kw (ld_blt I hgz hmz PyProof.Rows.boot_zip (PyProof.Rows.callWith_type1 (thn args fun us s1 ⟨vs, H1, I1, r1, q1⟩ => ?_) (star_cons h1) (star_any (by simp [h2]))))
  obtain ⟨g2, x, y, rfl, A2, la, lb, xs, ys, rfl, rfl, e1, e2, zn⟩ := q1
  cases r1 with
  | cons ra rr =>
    cases rr with
    | cons rb rr =>
      cases rr
      cases ra
      cases rb
      rw [hk] at e1 e2
      have q1 := A2.ls e1
      have q2 := A2.ls e2
      rw [← hK] at q1 q2
      obtain ⟨its, rv, p1, z1⟩ := I1.list q1
      obtain ⟨its2, rv2, p2', z2⟩ := I1.list q2
      have lt1 : la < s1.heap.objs.size := p1.lt
      have lt2 : lb < s1.heap.objs.size := p2'.lt
      refine call_zip_2 p1.isList p2'.isList fun h' hz hTI hTO hi1 hi2 hsz hkp => ?_
      refine Calls.spliced_nil ?_
      have kl : ∀ {l : Addr} {vs : Array Value}, s1.heap.IsList l vs → h'.IsList l vs := fun h => by obtain ⟨o, ho, r⟩ := h; exact ⟨o, hkp _ o ho, r⟩
      have l1 := rv.length
      have l2 := rv2.length
      refine listZ (s := { s1 with heap := h' }) (I1.ok.hd hcalm) (PySem.W.ktu_apart s1.heap.objs.size la lb lt1 lt2) hz hTI hTO hi1 hi2 (kl p1.isList) (kl p2'.isList) (by simp only [List.size_toArray]; omega) ?_
      intro h3 tk acc cc as kp eD hal M hacc
      dsimp only at kp eD M ⊢
      rw [hsz] at M eD ⊢
      have base : ∀ n, s1.heap.objs.size ≤ s1.heap.objs.size + n := fun n => Nat.le_add_right _ _
      have kp1 : ∀ b o, s1.heap.get? b = some o → h3.get? b = some o := fun b o e => by
        have lt := Heap.lt_size e
        refine kp b o ?_ ?_ ?_ ?_ (hkp b o e)
        · exact Nat.ne_of_lt (Nat.lt_of_lt_of_le lt (base 4))
        · exact Nat.ne_of_lt (Nat.lt_of_lt_of_le lt (base 3))
        · exact Nat.ne_of_lt lt
        · exact Nat.ne_of_lt (Nat.lt_of_lt_of_le lt (base 1))
      have hlz : as.length = (xs.zip ys).length := by rw [hal, List.length_zip]; simp only [List.size_toArray]; omega
      have frs : ∀ b ∈ as, H1 b = none := fun b hb => I1.hok.fresh (show @LE.le Nat _ s1.heap.objs.size b by have := M.nat hb; omega)
      obtain ⟨g3, kq, A3⟩ := zip_abs A2 (nodup_lt M.rise) frs hlz zn
      generalize hD : s1.heap.objs.size + 5 = D at *
      have hDa : D ∉ as := fun hm => by have := M.nat hm; omega
      have frD : zipUp H1 (xs.zip ys) as D = none := by rw [zipUp_ne hDa]; exact I1.hok.fresh (show @LE.le Nat _ s1.heap.objs.size D by omega)
      have A4 := A3.newL (xs := as.map V.ref) frD
      have qf := i _ _ _ (kq D (A3.fresh frD)) A4
      refine ⟨.ref D, _, ?_, rfl, qf⟩
      have ext : ∀ b u, H1 b = some u → upd (zipUp H1 (xs.zip ys) as) D (.lst (as.map V.ref)) b = some u := fun b u e => by
        have hb : @LT.lt Nat _ b s1.heap.objs.size := I1.hok.lt e
        rw [upd_ne (Nat.ne_of_lt (show @LT.lt Nat _ b D by omega)), zipUp_ne (fun hm => by have := M.nat hm; omega)]
        exact e
      refine I1.un (t' := tk) ⟨fun b u q _ _ _ => kp1 b u q, fun b u q _ _ _ => ⟨u.slots, kp1 b u q⟩, fun b u q n _ => ?_, fun b u q _ => ⟨u, kp1 b u q⟩, fun b xs q => ext _ _ q, fun b u xs q => ext _ _ q, fun b ps q => ⟨#[], by rw [ext _ _ q]; simp⟩⟩ ?_
      · have hb : @LT.lt Nat _ b s1.heap.objs.size := Heap.lt_size q
        rw [upd_ne (Nat.ne_of_lt (show @LT.lt Nat _ b D by omega)), zipUp_ne (fun hm => by have := M.nat hm; omega)]
        exact n
      · intro b u e
        by_cases hbD : b = D
        · subst hbD
          rw [upd_same] at e
          cases e
          refine ⟨by rw [List.length_map, hlz, List.length_zip]; omega, as.map Value.ref, cc, ?_, ?_⟩
          · exact vals_refs' as
          · rw [eD, ← hacc]
        · rw [upd_ne hbD] at e
          by_cases hm : b ∈ as
          · obtain ⟨j, hj⟩ := List.getElem?_of_mem hm
            have hjl : j < (xs.zip ys).length := by rw [← hlz]; exact (List.getElem?_eq_some_iff.mp hj).1
            rw [zipUp_at (nodup_lt M.rise) hj (List.getElem?_eq_getElem hjl)] at e
            cases e
            obtain ⟨x, y, ex, ey, ep⟩ := M.pairs j b hj
            rw [List.length_zip] at hjl
            have hx : xs[j]? = some xs[j] := List.getElem?_eq_getElem (by omega)
            have hy : ys[j]? = some ys[j] := List.getElem?_eq_getElem (by omega)
            obtain ⟨u1, eu1, ru1⟩ := rv.get hx
            obtain ⟨u2, eu2, ru2⟩ := rv2.get hy
            have : u1 = x := by rw [List.getElem?_toArray, eu1] at ex; cases ex; rfl
            subst this
            have : u2 = y := by rw [List.getElem?_toArray, eu2] at ey; cases ey; rfl
            subst this
            refine ⟨by simp [sizeLine], [u1, u2], ?_, ?_⟩
            · rw [List.getElem_zip]
              exact .cons ru1 (.cons ru2 .nil)
            · exact ⟨_, ep, rfl, _, rfl⟩
          · rw [zipUp_ne hm] at e
            refine (I1.hok b u e).stay (fun d v _ q => kp1 d v q) (fun d q => ext _ _ q) fun d xs q => ext _ _ q
end
end SW
end

section
set_option Elab.async false
set_option linter.all false
set_option maxRecDepth 100000
set_option maxHeartbeats 4000000
namespace SW
open PySem PySem.Spec PyProof.Rows L2
section
variable {P : Prm} {c : Cal} {k : Nat} {X : Cx} {ce : CE} {f : Expr → Option T} {ft : Expr → Option TB} {fs : Stmt → Option TSt}
theorem s_arL (gd : ∀ e t, f e = some t → PE X e (RE P c t)) : ∀ (es : List Expr) (tl : TLs), arL f es = some tl → PA X es (RL P c tl) ∧ (es.all fun e => !isStar e) = true ∧ (es = [] → tl = lNil)
  | [], tl, h => by cases h; exact ⟨g_nil, rfl, fun _ => rfl⟩
  | a :: r, tl, h => by
    unfold arL at h
    split at h
    · cases h
    · rename_i hs
      simp only [Option.bind_eq_some_iff, Option.map_eq_some_iff] at h
      obtain ⟨x, hx, y, hy, rfl⟩ := h
      obtain ⟨h1, h2, _⟩ := s_arL gd r y hy
      have hs' : isStar a = false := by simpa using hs
      exact ⟨g_cons (gd _ _ hx) h1 (star_cons hs'), by simp [hs', h2], fun z => nomatch z⟩
theorem s_boL (hK : X.K = P.K) (hk : c.kl = P.kl) (gd : ∀ e t, f e = some t → PE X e (RE P c t)) {op : BoolOp} {pos : Pos} : ∀ (es : List Expr) (t : T), boL f op es = some t → PE X (.BoolOp op es pos) (RE P c t)
  | [], t, h => by cases h
  | [a], t, h => pe_one (gd _ _ h)
  | a :: b :: r, t, h => by
    unfold boL at h
    simp only [Option.bind_eq_some_iff, Option.map_eq_some_iff] at h
    obtain ⟨x, hx, y, hy, rfl⟩ := h
    have ih := s_boL hK hk gd (op := op) (pos := pos) (b :: r) y hy
    cases op with
    | And => exact g_and hK hk (gd _ _ hx) ih
    | Or => exact g_or hK hk (gd _ _ hx) ih
theorem s_twL (gd : ∀ e t, ft e = some t → PT X e (RB P c t)) {op : BoolOp} {pos : Pos} : ∀ (es : List Expr) (t : TB), twL ft op es = some t → PW X (.BoolOp op es pos) (RB P c t)
  | [], t, h => by cases h
  | [a], t, h => by
    cases op with
    | And => exact gw_and1 (gd _ _ h)
    | Or => exact gw_or1 (gd _ _ h)
  | a :: b :: r, t, h => by
    unfold twL at h
    simp only [Option.bind_eq_some_iff, Option.map_eq_some_iff] at h
    obtain ⟨x, hx, y, hy, rfl⟩ := h
    have ih := s_twL gd (op := op) (pos := pos) (b :: r) y hy
    cases op with
    | And => exact gw_and (gd _ _ hx) ih
    | Or => exact gw_or (gd _ _ hx) ih
theorem s_chL (gd : ∀ e t, f e = some t → PE X e (RE P c t)) : ∀ (ops : List CmpOp) (es : List Expr) (r : List (CmpOp × T)), chL f ops es = some r → Chn X P c ops es r
  | [op], [b], r, h => by
    unfold chL at h
    simp only [Option.map_eq_some_iff] at h
    obtain ⟨x, hx, rfl⟩ := h
    exact .one (gd _ _ hx)
  | op :: op' :: ops, b :: b' :: es, r, h => by
    unfold chL at h
    simp only [Option.bind_eq_some_iff, Option.map_eq_some_iff] at h
    obtain ⟨x, hx, y, hy, rfl⟩ := h
    exact .more (gd _ _ hx) (s_chL gd (op' :: ops) (b' :: es) y hy)
  | [], _, r, h => by cases h
  | _ :: _, [], r, h => by
    unfold chL at h
    split at h <;> first | (rename_i e; cases e; done) | cases h | skip
    all_goals simp_all
  | [_], _ :: _ :: es, r, h => by
    unfold chL at h
    simp only [Option.bind_eq_some_iff, Option.map_eq_some_iff] at h
    obtain ⟨x, hx, y, hy, rfl⟩ := h
    cases hy
  | _ :: _ :: ops, [_], r, h => by
    unfold chL at h
    simp only [Option.bind_eq_some_iff, Option.map_eq_some_iff] at h
    obtain ⟨x, hx, y, hy, rfl⟩ := h
    unfold chL at hy
    split at hy <;> simp_all
theorem s_ssL (gd : ∀ s t, fs s = some t → PS X s (RS P c t)) : ∀ (ss : List Stmt) (t : TSt), ssL fs ss = some t → PSs X ss (RS P c t)
  | [], t, h => by cases h; exact gs_nil
  | s :: r, t, h => by
    unfold ssL at h
    simp only [Option.bind_eq_some_iff, Option.map_eq_some_iff] at h
    obtain ⟨x, hx, y, hy, rfl⟩ := h
    exact gs_cons (gd _ _ hx) (s_ssL gd r y hy)
theorem s_nmL (C : CtxOk P c k X ce) : ∀ (es : List Expr) (is : List Nat), nmL ce es = some is → Nms X es is
  | [], is, h => by cases h; exact .nil
  | e :: r, is, h => by
    cases e <;> first
      | (unfold nmL at h
         simp only [Option.bind_eq_some_iff, Option.map_eq_some_iff] at h
         obtain ⟨x, hx, y, hy, rfl⟩ := h
         obtain ⟨h1, h2, h3⟩ := C.st hx
         exact .cons h1 h2 h3 (s_nmL C r y hy))
      | (unfold nmL at h; cases h)
theorem s_tg (C : CtxOk P c k X ce) {tg : Expr} {t : TTg} (h : cTg ce tg = some t) : PG X tg (RG P c t) ∧ isStar tg = false := by
  unfold cTg at h
  split at h
  · simp only [Option.map_eq_some_iff] at h
    obtain ⟨i, hi, rfl⟩ := h
    obtain ⟨h1, h2, h3⟩ := C.st hi
    exact ⟨g_name C.nd h1 h2 h3, rfl⟩
  · simp only [Option.map_eq_some_iff] at h
    obtain ⟨is, hi, rfl⟩ := h
    exact ⟨g_tgt C.K C.calm C.nd (s_nmL C _ _ hi), rfl⟩
  · cases h
theorem s_isBi (C : CtxOk P c k X ce) {x : Str} (h : isBi ce x = true) : Gl X x ∧ X.mg x = none ∧ special x = false := by
  unfold isBi at h
  rw [Bool.and_eq_true, Bool.and_eq_true] at h
  exact ⟨C.gl h.1.1, C.bis x (of_decide_eq_true h.1.2), by simpa using h.2⟩
theorem set_no {e : Expr} {env : Env} (h : isSet e = false) : ∀ x, foldedSetIterable e env x = pure x := by
  intro x
  cases e <;> first | rfl | (simp [isSet] at h)
theorem s_src (C : CtxOk P c k X ce) (gd : ∀ e t, f e = some t → PE X e (RE P c t)) {tg it : Expr} {t : TI} (h : cSrc f ce tg it = some t) : PI X tg it (RI P c t) ∧ isSet it = false := by
  have tup : ∀ {e : Expr}, isTup e = true → ∃ es kk pos, e = .Tuple es kk pos := fun {e} h => by
    cases e <;> first | exact ⟨_, _, _, rfl⟩ | (simp [isTup] at h)
  unfold cSrc at h
  split at h
  · rename_i x p es pos
    refine ⟨?_, rfl⟩
    split at h
    · rename_i hb
      rw [Bool.and_eq_true] at hb
      obtain ⟨b1, b2, _⟩ := s_isBi C hb.1
      have ex : x = "range" := by simpa using hb.2
      subst ex
      split at h
      · split at h
        · cases h
        · rename_i hs
          simp only [Option.map_eq_some_iff] at h
          obtain ⟨u, hu, rfl⟩ := h
          exact gi_rng1 b1 b2 (gd _ _ hu) (by simpa using hs)
      · split at h
        · cases h
        · rename_i hs
          simp only [Option.bind_eq_some_iff, Option.map_eq_some_iff] at h
          obtain ⟨u, hu, v, hv, rfl⟩ := h
          have hs' := hs; simp only [Bool.or_eq_true, not_or, Bool.not_eq_true] at hs'
          exact gi_rng2 b1 b2 (gd _ _ hu) (gd _ _ hv) hs'.1 hs'.2
      · split at h
        · cases h
        · rename_i hs
          simp only [Option.bind_eq_some_iff, Option.map_eq_some_iff] at h
          obtain ⟨u, hu, v, hv, w, hw, rfl⟩ := h
          have hs' := hs; simp only [Bool.or_eq_true, not_or, Bool.not_eq_true] at hs'
          exact gi_rng3 b1 b2 (gd _ _ hu) (gd _ _ hv) (gd _ _ hw) hs'.1.1 hs'.1.2 hs'.2
      · cases h
    · split at h
      · rename_i hb
        rw [Bool.and_eq_true, Bool.and_eq_true] at hb
        obtain ⟨b1, b2, _⟩ := s_isBi C hb.1.1
        have ex : x = "enumerate" := by simpa using hb.1.2
        subst ex
        obtain ⟨_, _, _, rfl⟩ := tup hb.2
        split at h
        · split at h
          · cases h
          · rename_i hs
            simp only [Option.map_eq_some_iff] at h
            obtain ⟨u, hu, rfl⟩ := h
            exact gi_enm C.K C.kl b1 b2 (gd _ _ hu) (by simpa using hs)
        · cases h
      · split at h
        · rename_i hb
          rw [Bool.and_eq_true, Bool.and_eq_true] at hb
          obtain ⟨b1, b2, _⟩ := s_isBi C hb.1.1
          have ex : x = "zip" := by simpa using hb.1.2
          subst ex
          obtain ⟨_, _, _, rfl⟩ := tup hb.2
          split at h
          · split at h
            · cases h
            · rename_i hs
              simp only [Option.bind_eq_some_iff, Option.map_eq_some_iff] at h
              obtain ⟨u, hu, v, hv, rfl⟩ := h
              have hs' := hs; simp only [Bool.or_eq_true, not_or, Bool.not_eq_true] at hs'
              exact gi_zip C.K C.kl b1 b2 (gd _ _ hu) (gd _ _ hv) hs'.1 hs'.2
          · cases h
        · simp only [Option.map_eq_some_iff] at h
          obtain ⟨u, hu, rfl⟩ := h
          exact gi_val C.K C.kl (gd _ _ hu)
  · split at h
    · cases h
    · rename_i hs
      simp only [Option.map_eq_some_iff] at h
      obtain ⟨u, hu, rfl⟩ := h
      exact ⟨gi_val C.K C.kl (gd _ _ hu), by simpa using hs⟩
theorem er_self (h : c.er = botE) : ({ c with er := botE } : Cal) = c := by cases c; cases h; rfl
theorem s_tests (gt : ∀ e t, ft e = some t → PT X e (RB P c t)) {ifs : List Expr} {t : TB} (h : (match ifs with | [] => some tYes | [t] => ft t | _ => none) = some t) : PTs X ifs (RB P c t) := by
  split at h
  · cases h
    exact ⟨fun pins s σ H Q I ⟨g, Q', A, h, i⟩ => pts_nil.run pins s σ H Q I (i _ _ _ h A)⟩
  · exact pts_one (gt _ _ h)
  · cases h
/-- all that a comprehension's rules ask -/
structure LcOk (X : Cx) (P : Prm) (c : Cal) (elt : Expr) (gs : List Comprehension) (scope : Scope) (t : T) : Prop where
  ex : ∃ tg it ifs src tt tb te own, gs = [⟨tg, it, ifs, 0⟩] ∧ t = eLc src tt tb te (own.map fun p : Str × Nat => p.2) ∧ PI X tg it (RI P c src) ∧ BlkOk X.N X.env.scope scope own ∧
    (∀ (s : Shared) (H : Hp) (C : Addr) (cl : List (Str × Addr)) (fp : List Addr), PG (X.blk s H scope (compEnvC scope cl C X.env) fp) tg (RG P c tt)) ∧
    (∀ (s : Shared) (H : Hp) (C : Addr) (cl : List (Str × Addr)) (fp : List Addr), PTs (X.blk s H scope (compEnvC scope cl C X.env) fp) ifs (RB P c tb)) ∧
    (∀ (s : Shared) (H : Hp) (C : Addr) (cl : List (Str × Addr)) (fp : List Addr), PE (X.blk s H scope (compEnvC scope cl C X.env) fp) elt (RE P c te)) ∧ isSet it = false
theorem s_lc {r : CF} (G : Good P c k r) (C : CtxOk P c k X ce) {elt : Expr} {gs : List Comprehension} {scope : Scope} {t : T} (h : cLc r ce elt gs scope = some t) : LcOk X P c elt gs scope t := by
  unfold cLc at h
  split at h
  · split at h
    · rename_i tg it ifs hb
      simp only [Option.bind_eq_some_iff, Option.map_eq_some_iff] at h
      obtain ⟨src, hsrc, g, hg, tt, htt, te, hte, rfl⟩ := h
      have ok : BlkOk X.N X.env.scope scope (ownOf ce.N scope) := by
        rw [C.N, C.sc]; exact blkOk_by hb
      have B := fun s H A cl fp => C.blk ok.kind s H A cl fp
      obtain ⟨i1, i2⟩ := s_src C (fun e t => G.e X ce e t C) hsrc
      exact ⟨tg, it, ifs, src, g, tt, te, ownOf ce.N scope, rfl, rfl, i1, ok, fun s H A cl fp => (s_tg (B s H A cl fp) hg).1, fun s H A cl fp => s_tests (fun e t => G.t _ _ e t (B s H A cl fp)) htt, fun s H A cl fp => G.e _ _ _ _ (B s H A cl fp) hte, i2⟩
    · cases h
  · cases h
theorem LcOk.pe (C : CtxOk P c k X ce) {elt : Expr} {gs : List Comprehension} {scope : Scope} {t : T} {pos : Pos} (L : LcOk X P c elt gs scope t) : PE X (.ListComp elt gs scope pos) (RE P c t) := by
  obtain ⟨tg, it, ifs, src, tt, tb, te, own, rfl, rfl, h1, h2, h3, h4, h5, h6⟩ := L.ex
  exact g_lc C.kl C.calm C.nd h1 h2 h3 (by rw [er_self C.er]; exact h4) (by rw [er_self C.er]; exact h5) (set_no h6)
theorem s_name (C : CtxOk P c k X ce) {x : Str} {t : T} {pos : Pos} (h : cName ce x = some t) : PE X (.Name x pos) (RE P c t) := by
  unfold cName at h
  split at h
  · cases h
  · rename_i hs
    obtain ⟨s1, s2, s3⟩ := special_no (by simpa using hs)
    split at h
    · rename_i hv
      simp only [Option.map_eq_some_iff] at h
      obtain ⟨i, hi, rfl⟩ := h
      exact g_var (by rw [C.N]; exact ixOf_get hi) (C.vis hv) s1 s2
    · split at h
      · rename_i hg
        simp only [Option.map_eq_some_iff] at h
        obtain ⟨v, hv, rfl⟩ := h
        obtain ⟨u, h1, h2⟩ := C.cst x v hv
        exact g_c (pe_glob (C.gl hg) h1 h2 s1)
      · cases h
theorem s_bi (C : CtxOk P c k X ce) {x : Str} {b : Bi} (h : bi? x = some b) : ∃ id, CallR X (.builtin id) (biL P b) ∧ bootBuiltins x = some (.builtin id) := by
  unfold bi? at h
  split at h
  · rename_i e; subst e; cases h; exact ⟨_, bi_len C.K, by decide +kernel⟩
  · split at h
    · rename_i e; subst e; cases h; exact ⟨_, bi_max C.K C.calm, by decide +kernel⟩
    · split at h
      · rename_i e; subst e; cases h; exact ⟨_, bi_min C.K C.calm, by decide +kernel⟩
      · split at h
        · rename_i e; subst e; cases h; exact ⟨_, bi_abs, by decide +kernel⟩
        · split at h
          · rename_i e; subst e; cases h; exact ⟨_, bi_sum C.K C.calm, by decide +kernel⟩
          · split at h
            · rename_i e; subst e; cases h; exact ⟨_, bi_all C.K C.calm, by decide +kernel⟩
            · cases h
theorem s_ty (C : CtxOk P c k X ce) {x : Str} {b : Bi} (h : ty? x = some b) : ∃ id, CallR X (.type id) (biL P b) ∧ bootBuiltins x = some (.type id) := by
  unfold ty? at h
  split at h
  · rename_i e; subst e; cases h; exact ⟨_, bi_int, by decide +kernel⟩
  · split at h
    · rename_i e; subst e; cases h; exact ⟨_, bi_str, by decide +kernel⟩
    · split at h
      · rename_i e; subst e; cases h; exact ⟨_, bi_list C.K, by decide +kernel⟩
      · split at h
        · rename_i e; subst e; cases h; exact ⟨_, bi_dict, by decide +kernel⟩
        · cases h
theorem s_isi {x : Str} {b : Bi} (h : isi? x = some b) : ∃ T, (b, T) ∈ [(Bi.isint, "int"), (Bi.isbool, "bool"), (Bi.isstr, "str"), (Bi.istuple, "tuple"), (Bi.islist, "list")] ∧ bootBuiltins x = some (.type T) := by
  unfold isi? at h
  split at h
  · rename_i e; subst e; cases h; exact ⟨"int", by simp, by decide +kernel⟩
  · split at h
    · rename_i e; subst e; cases h; exact ⟨"bool", by simp, by decide +kernel⟩
    · split at h
      · rename_i e; subst e; cases h; exact ⟨"str", by simp, by decide +kernel⟩
      · split at h
        · rename_i e; subst e; cases h; exact ⟨"tuple", by simp, by decide +kernel⟩
        · split at h
          · rename_i e; subst e; cases h; exact ⟨"list", by simp, by decide +kernel⟩
          · cases h
theorem s_callN (C : CtxOk P c k X ce) (gd : ∀ e t, f e = some t → PE X e (RE P c t)) {x : Str} {es : List Expr} {t : T} {p pos : Pos} (h : cCallN f ce x es = some t) : PE X (.Call (.Name x p) es [] pos) (RE P c t) := by
  unfold cCallN at h
  split at h
  · cases h
  · rename_i hs
    obtain ⟨s1, s2, s3⟩ := special_no (by simpa using hs)
    split at h
    · rename_i hg
      split at h
      · rename_i n hn
        simp only [Option.map_eq_some_iff] at h
        obtain ⟨a, ha, rfl⟩ := h
        obtain ⟨fa, h1, h2⟩ := C.fns x n hn
        obtain ⟨a1, a2, a3⟩ := s_arL gd es a ha
        exact g_fn C.er h2 (C.hr.mono (Nat.le_succ _)) (C.gl hg) h1 s1 a1 a2 a3
      · split at h
        · rename_i cn n hn
          simp only [Option.map_eq_some_iff] at h
          obtain ⟨a, ha, rfl⟩ := h
          obtain ⟨B, fa, h0, h1, h2, h3⟩ := C.cls x cn n hn
          obtain ⟨a1, a2, a3⟩ := s_arL gd es a ha
          exact g_mk C.er h3 h2 h0 C.hr (C.gl hg) h1 s1 a1 a2 a3
        · split at h
          · rename_i hb
            obtain ⟨b1, b2, b3⟩ := s_isBi C hb
            split at h
            · rename_i e y q hx
              have ex : x = "isinstance" := by simpa using hx
              subst ex
              split at h
              · cases h
              · rename_i hh
                have hh' : isStar e = false ∧ isBi ce y = true := by simpa using hh
                simp only [Option.bind_eq_some_iff, Option.map_eq_some_iff] at h
                obtain ⟨b, hb, u, hu, rfl⟩ := h
                obtain ⟨T, t1, t2⟩ := s_isi hb
                obtain ⟨y1, y2, y3⟩ := s_isBi C hh'.2
                obtain ⟨z1, z2, z3⟩ := special_no y3
                exact g_isi C.K C.kl t1 b1 b2 y1 y2 t2 z3 z1 (gd _ _ hu) hh'.1
            · cases h
            · cases h
            · rename_i e r _
              split at h
              · rename_i ab hz
                simp only [Option.bind_eq_some_iff, Option.map_eq_some_iff] at h
                obtain ⟨u, hu, v, hv, rfl⟩ := h
                unfold lzip? at hz
                split at hz
                · rename_i z pz a b pz2 heq
                  split at hz
                  · rename_i hc
                    simp only [Bool.and_eq_true, Bool.not_eq_true'] at hc
                    obtain ⟨⟨⟨⟨e1, e2⟩, e3⟩, e4⟩, e5⟩ := hc
                    have ex : x = "list" := by simpa using e1
                    have ez : z = "zip" := by simpa using e2
                    subst ex ez
                    obtain ⟨z1, z2, _⟩ := s_isBi C e3
                    cases hz
                    cases heq
                    exact g_lzip C.K C.kl C.calm b1 b2 z1 z2 (gd _ _ hu) (gd _ _ hv) e4 e5
                  · cases hz
                · cases hz
              · split at h
                · rename_i b hb
                  simp only [Option.map_eq_some_iff] at h
                  obtain ⟨a, ha, rfl⟩ := h
                  obtain ⟨id, c1, c2⟩ := s_bi C hb
                  obtain ⟨a1, a2, a3⟩ := s_arL gd _ a ha
                  rw [List.all_cons, Bool.and_eq_true] at a2
                  exact g_bi C.kl c1 b1 b2 c2 s3 s1 a1 (by simpa using a2.1) a2.2
                · simp only [Option.bind_eq_some_iff, Option.map_eq_some_iff] at h
                  obtain ⟨b, hb, a, ha, rfl⟩ := h
                  obtain ⟨id, c1, c2⟩ := s_ty C hb
                  obtain ⟨a1, a2, a3⟩ := s_arL gd _ a ha
                  rw [List.all_cons, Bool.and_eq_true] at a2
                  exact g_biT C.kl c1 b1 b2 c2 s3 s1 a1 (by simpa using a2.1) a2.2
          · cases h
    · cases h
theorem s_bm {o : Expr} {m : Str} {b : Bm} (h : bm? o m = some b) : bmName b = m := by
  unfold bm? at h
  split at h
  · rename_i hh
    cases h
    rw [Bool.and_eq_true] at hh
    exact (beq_iff_eq.mp hh.1).symm
  · have := List.find?_some h
    simpa using this
theorem s_callM (C : CtxOk P c k X ce) (gd : ∀ e t, f e = some t → PE X e (RE P c t)) {o : Expr} {m : Str} {es : List Expr} {t : T} {apos pos : Pos} (h : cCallM f ce o m apos pos es = some t) : PE X (.Call (.Attribute o m apos) es [] pos) (RE P c t) := by
  unfold cCallM at h
  split at h
  · rename_i hh
    rw [Bool.and_eq_true, Bool.and_eq_true] at hh
    obtain ⟨⟨h1, h2⟩, h3⟩ := hh
    simp only [Option.bind_eq_some_iff] at h
    obtain ⟨x, hx, a, ha, h⟩ := h
    obtain ⟨a1, a2, a3⟩ := s_arL gd es a ha
    split at h
    · rename_i ms hm
      cases h
      exact g_mt C.K C.cl C.er (C.mts m ms hm) (C.hr.mono (Nat.le_succ _)) (gd _ _ hx) a1 h1 a2 (of_decide_eq_true h2) h3 a3
    · simp only [Option.map_eq_some_iff] at h
      obtain ⟨b, hb, rfl⟩ := h
      have e := s_bm hb
      subst e
      exact g_bm C.K C.kl (gd _ _ hx) a1 h1 a2 (of_decide_eq_true h2) h3 a3
  · cases h
theorem s_opO (gd : ∀ e t, f e = some t → PE X e (RE P c t)) {o : Option Expr} {t : Cal → L2.St → G → (Option Int → G → Prop) → Prop} (h : opO f o = some t) : PO X o (RO P c t) := by
  cases o with
  | none => cases h; exact g_onone
  | some e =>
    unfold opO at h
    simp only [Option.map_eq_some_iff] at h
    obtain ⟨u, hu, rfl⟩ := h
    exact g_osome (gd _ _ hu)
theorem atIx_eq {f : Str} {i : Nat} (h : atIx f = some i) : anOf i = f := by
  have := ixOf_get h
  unfold anOf
  rw [List.getD_eq_getElem?_getD, this]
  rfl
theorem ix_plain {b : Expr} (h : ∀ lo hi st p, b ≠ .Slice lo hi st p) : PlainIx b := by
  intro o i
  cases b <;> first | rfl | exact absurd rfl (h _ _ _ _)
end
end SW
end

section
set_option Elab.async false
set_option linter.all false
set_option maxRecDepth 100000
set_option maxHeartbeats 4000000
namespace SW
open PySem PySem.Spec PyProof.Rows L2
section
variable {P : Prm} {c : Cal} {k : Nat} {r : CF}
theorem s_dspL {X : Cx} {f : Expr → Option T} {pos : Pos} (gd : ∀ e t, f e = some t → PE X e (RE P c t)) : ∀ {ks : List (Option Expr)} {vs : List Expr} {trs : List (T × T)}, dspL f ks vs = some trs → PPs X pos ks vs (liftP P c trs) ∧ ks.all (·.isSome) = true ∧ ks.length = vs.length
  | [], [], trs, h => by
    cases h
    exact ⟨pps_nil, rfl, rfl⟩
  | some k :: ks, v :: vs, trs, h => by
    unfold dspL at h
    simp only [Option.bind_eq_some_iff, Option.map_eq_some_iff] at h
    obtain ⟨x, hx, y, hy, r, hr, rfl⟩ := h
    obtain ⟨a1, a2, a3⟩ := s_dspL gd hr
    exact ⟨pps_cons (gd _ _ hx) (gd _ _ hy) a1, by rw [List.all_cons, a2]; rfl, by rw [List.length_cons, List.length_cons, a3]⟩
  | none :: _, _, _, h => by unfold dspL at h; cases h
  | some _ :: _, [], _, h => by unfold dspL at h; cases h
  | [], _ :: _, _, h => by unfold dspL at h; cases h
theorem good_e (G : Good P c k r) (X : Cx) (ce : CE) (e : Expr) (t : T) (C : CtxOk P c k X ce) (h : stepE r ce e = some t) : PE X e (RE P c t) := by
  have gd : ∀ e t, r.e ce e = some t → PE X e (RE P c t) := fun e t => G.e X ce e t C
  unfold stepE at h
  split at h
  · exact s_name C h
  · simp only [Option.map_eq_some_iff] at h
    obtain ⟨v, hv, rfl⟩ := h
    unfold cConst at hv
    split at hv <;> cases hv
    · exact g_c pe_int
    · exact g_c pe_bl
    · exact g_c pe_non
    · exact g_c pe_str
  · simp only [Option.bind_eq_some_iff, Option.map_eq_some_iff] at h
    obtain ⟨x, hx, y, hy, rfl⟩ := h
    exact g_bin C.K C.kl (gd _ _ hx) (gd _ _ hy)
  · split at h
    · simp only [Option.map_eq_some_iff] at h
      obtain ⟨x, hx, rfl⟩ := h
      exact g_neg (gd _ _ hx)
    · simp only [Option.map_eq_some_iff] at h
      obtain ⟨x, hx, rfl⟩ := h
      exact g_not C.K C.kl (gd _ _ hx)
    · cases h
  · split at h
    · split at h
      · cases h
      · rename_i hm
        simp only [Option.bind_eq_some_iff, Option.map_eq_some_iff] at h
        obtain ⟨x, hx, y, hy, rfl⟩ := h
        exact g_cmp C.K C.kl C.hu (gd _ _ hx) (gd _ _ hy) (by simpa using hm)
    · split at h
      · cases h
      · rename_i hm
        simp only [Option.bind_eq_some_iff, Option.map_eq_some_iff] at h
        obtain ⟨x, hx, y, hy, rfl⟩ := h
        exact g_chn C.K C.kl C.hu (gd _ _ hx) (s_chL gd _ _ _ hy) (by simpa using hm)
    · cases h
  · exact s_boL C.K C.kl gd _ _ h
  · simp only [Option.map_eq_some_iff] at h
    obtain ⟨x, hx, rfl⟩ := h
    exact g_tup (s_arL gd _ _ hx).1
  · simp only [Option.map_eq_some_iff] at h
    obtain ⟨x, hx, rfl⟩ := h
    exact g_lst (s_arL gd _ _ hx).1
  · split at h
    · cases h; exact g_dict0
    · split at h
      · rename_i h15
        simp only [Option.map_eq_some_iff] at h
        obtain ⟨x, hx, rfl⟩ := h
        obtain ⟨a1, a2, a3⟩ := s_dspL gd hx
        exact g_disp a1 a2 a3 (fun z => nomatch z) h15
      · cases h
    · cases h
  · split at h
    · split at h
      · simp only [Option.bind_eq_some_iff, Option.map_eq_some_iff] at h
        obtain ⟨x, hx, l, hl, u, hu, rfl⟩ := h
        exact g_sl C.K C.kl (gd _ _ hx) (s_opO gd hl) (s_opO gd hu)
      · cases h
    · rename_i hns
      simp only [Option.bind_eq_some_iff, Option.map_eq_some_iff] at h
      obtain ⟨x, hx, y, hy, rfl⟩ := h
      exact g_ix C.K C.kl (by have := C.hu; omega) (gd _ _ hx) (gd _ _ hy) (ix_plain fun lo hi st p e => hns lo hi st p e)
  · split at h
    · rename_i hb
      simp only [Option.bind_eq_some_iff, Option.map_eq_some_iff] at h
      obtain ⟨i, hi, x, hx, rfl⟩ := h
      have e := atIx_eq hi
      subst e
      exact g_at C.K C.cl (gd _ _ hx) (base_ok hb)
    · cases h
  · split at h
    · split at h
      · exact s_callN C gd h
      · exact s_callM C gd h
      · cases h
    · cases h
  · exact (s_lc G C h).pe C
  · cases h
theorem good_t (G : Good P c k r) (X : Cx) (ce : CE) (e : Expr) (t : TB) (C : CtxOk P c k X ce) (h : stepT r ce e = some t) : PT X e (RB P c t) := by
  have gd : ∀ e t, r.e ce e = some t → PE X e (RE P c t) := fun e t => G.e X ce e t C
  have gt : ∀ e t, r.t ce e = some t → PT X e (RB P c t) := fun e t => G.t X ce e t C
  unfold stepT at h
  split at h
  · split at h
    · simp only [Option.map_eq_some_iff] at h
      obtain ⟨x, hx, rfl⟩ := h
      exact gt_not (gt _ _ hx)
    · cases h
  · exact (s_twL gt _ _ h).pt
  · split at h
    · split at h
      · cases h
      · rename_i hm
        simp only [Option.bind_eq_some_iff, Option.map_eq_some_iff] at h
        obtain ⟨x, hx, y, hy, rfl⟩ := h
        exact gt_cmp C.K C.kl C.hu (gd _ _ hx) (gd _ _ hy) (by simpa using hm)
    · split at h
      · cases h
      · rename_i hm
        simp only [Option.bind_eq_some_iff, Option.map_eq_some_iff] at h
        obtain ⟨x, hx, y, hy, rfl⟩ := h
        exact gt_chn C.K C.kl C.hu (gd _ _ hx) (s_chL gd _ _ _ hy) (by simpa using hm)
    · cases h
  · simp only [Option.map_eq_some_iff] at h
    obtain ⟨x, hx, rfl⟩ := h
    exact gt_val C.K C.kl (gd _ _ hx) fun _ => rfl
  · simp only [Option.map_eq_some_iff] at h
    obtain ⟨x, hx, rfl⟩ := h
    exact gt_val C.K C.kl (gd _ _ hx) fun _ => rfl
  · simp only [Option.map_eq_some_iff] at h
    obtain ⟨x, hx, rfl⟩ := h
    exact gt_val C.K C.kl (gd _ _ hx) fun _ => rfl
  · cases h
theorem good_asg (G : Good P c k r) (X : Cx) (ce : CE) (C : CtxOk P c k X ce) {tg e : Expr} {t : TSt} {spos : Pos} (h : cAsg r ce tg e spos = some t) : PS X (.Assign [tg] e spos) (RS P c t) := by
  have gd : ∀ e t, r.e ce e = some t → PE X e (RE P c t) := fun e t => G.e X ce e t C
  unfold cAsg at h
  split at h
  · split at h
    · split at h
      · rename_i x p elt gs scope pos _ _ _ q hlk hb
        simp only [Option.bind_eq_some_iff, Option.map_eq_some_iff] at h
        obtain ⟨u, hu, i, hi, rfl⟩ := h
        obtain ⟨tg', it, ifs, src, tt, tb, te, own, e1, rfl, h1, h2, h3, h4, h5, h6⟩ := (s_lc G C hu).ex
        rw [Bool.and_eq_true] at hb
        have hx : X.env.scope.names.lookup x = some .local := by rw [C.sc]; exact hlk
        rw [e1]
        exact gs_setLc (P := P) (c := c) hx C.kl C.calm C.nd (by rw [C.N]; exact ixOf_get hi) (sw_true C.kind hx hb.1 (by simpa using hb.2)) h1 h2 h3 (by rw [er_self C.er]; exact h4) (by rw [er_self C.er]; exact h5) (set_no h6)
      · cases h
    · split at h
      · cases h
      · rename_i hc
        simp only [Option.bind_eq_some_iff, Option.map_eq_some_iff] at h
        obtain ⟨i, hi, u, hu, rfl⟩ := h
        obtain ⟨h1, h2, h3⟩ := C.st hi
        exact gs_asg (gd _ _ hu) (g_name C.nd h1 h2 h3) (by simpa using hc) swapped_name rfl
  · split at h
    · cases h
    · rename_i hc
      simp only [Bool.or_eq_true, not_or, Bool.not_eq_true] at hc
      simp only [Option.bind_eq_some_iff, Option.map_eq_some_iff] at h
      obtain ⟨is, hi, u, hu, rfl⟩ := h
      exact gs_asg (gd _ _ hu) (g_tgt C.K C.calm C.nd (s_nmL C _ _ hi)) hc.2 (swapped_no hc.1) rfl
  · split at h
    · cases h
    · rename_i hc
      simp only [Option.bind_eq_some_iff, Option.map_eq_some_iff] at h
      obtain ⟨i, hi, x, hx, u, hu, rfl⟩ := h
      have e := atIx_eq hi
      subst e
      exact gs_setAt C.K C.cl (gd _ _ hx) (gd _ _ hu) (by simpa using hc)
  · split at h
    · cases h
    · rename_i hc
      simp only [Bool.or_eq_true, not_or, Bool.not_eq_true] at hc
      simp only [Option.bind_eq_some_iff, Option.map_eq_some_iff] at h
      obtain ⟨x, hx, y, hy, u, hu, rfl⟩ := h
      exact gs_setIx (by have := C.hu; omega) (gd _ _ hx) (gd _ _ hy) (gd _ _ hu) hc.1
  · cases h
theorem good_s (G : Good P c k r) (X : Cx) (ce : CE) (s : Stmt) (t : TSt) (C : CtxOk P c k X ce) (hb : ce.blk = false) (h : stepS r ce s = some t) : PS X s (RS P c t) := by
  have gd : ∀ e t, r.e ce e = some t → PE X e (RE P c t) := fun e t => G.e X ce e t C
  have gt : ∀ e t, r.t ce e = some t → PT X e (RB P c t) := fun e t => G.t X ce e t C
  have gs : ∀ s t, r.s ce s = some t → PS X s (RS P c t) := fun s t => G.s X ce s t C hb
  unfold stepS at h
  split at h
  · split at h
    · cases h
      exact PS.imp ps_doc fun D σ H ⟨g, D', A, h, k⟩ => k.nx _ _ _ h A
    · split at h
      · cases h
      · rename_i hc
        simp only [Option.map_eq_some_iff] at h
        obtain ⟨x, hx, rfl⟩ := h
        exact gs_drop (gd _ _ hx) (by simpa using hc)
  · simp only [Option.map_eq_some_iff] at h
    obtain ⟨x, hx, rfl⟩ := h
    exact gs_ret (gd _ _ hx)
  · cases h; exact gs_retN
  · simp only [Option.bind_eq_some_iff, Option.map_eq_some_iff] at h
    obtain ⟨x, hx, y, hy, z, hz, rfl⟩ := h
    exact gs_if (gt _ _ hx) (s_ssL gs _ _ hy) (s_ssL gs _ _ hz)
  · split at h
    · exact good_asg G X ce C h
    · cases h
  · split at h
    · simp only [Option.bind_eq_some_iff, Option.map_eq_some_iff] at h
      obtain ⟨x, hx, g, hg, b, hb', rfl⟩ := h
      obtain ⟨i1, i2⟩ := s_src C gd hx
      exact gs_for C.K C.kl C.xe C.calm i1 (s_tg C hg).1 (s_ssL gs _ _ hb') (set_no i2)
    · cases h
  · split at h
    · simp only [Option.bind_eq_some_iff, Option.map_eq_some_iff] at h
      obtain ⟨x, hx, b, hb', rfl⟩ := h
      exact gs_while C.xe (gt _ _ hx) (s_ssL gs _ _ hb')
    · cases h
  · cases h; exact gs_brk
  · cases h; exact gs_pass
  · cases h; exact gs_raise C.er
  · cases h
theorem good_all : ∀ n, Good P c k (cF n)
  | 0 => ⟨fun _ _ _ _ _ h => (nomatch h), fun _ _ _ _ _ h => (nomatch h), fun _ _ _ _ _ _ h => (nomatch h)⟩
  | n + 1 => ⟨fun X ce e t => good_e (good_all n) X ce e t, fun X ce e t => good_t (good_all n) X ce e t, fun X ce s t => good_s (good_all n) X ce s t⟩
theorem body_ok {X : Cx} {ce : CE} {b : List Stmt} {t : TSt} (C : CtxOk P c k X ce) (hb : ce.blk = false) (h : cBody ce b = some t) : PSs X b (RS P c t) :=
  s_ssL (fun s t => (good_all 40).s X ce s t C hb) b t h
end
end SW
end

section
set_option Elab.async false
set_option linter.all false
set_option maxRecDepth 100000
set_option maxHeartbeats 4000000
/-! The promises of all defs, by the depth of calls. -/
namespace SW
open PySem PySem.Spec PyProof.Rows L2
/-- the tables of a text -/
structure Tab where
  bis : List Str
  cst : List (Str × Sum Int Str)
  fns : List (Str × Nat)
  cls : List (Str × Nat × Nat)
  mtd : List (Str × Str × Nat)
  mts : List (Str × List (Nat × Nat))
  exc : List (Str × Nat)
structure Ent where
  id : Nat
  at_ : Str × Option Str
  name : Str
  qual : Str
  st : Stmt
  ps : List Str
  N : List Str
  d : FDef
def Tab.ce (T : Tab) (sc : Scope) (N : List Str) : CE := ⟨sc, N, false, T.bis, T.fns, T.cls, T.mts, T.cst.map fun p => (p.1, kV p.2), T.exc⟩
/-- what a def's text must be -/
structure EntOk (T : Tab) (e : Ent) : Prop where
  body : cBody (T.ce (defScope e.st) e.N) (defBody e.st) = some e.d.body
  n : e.d.n = e.ps.length
  sz : e.d.sz = e.N.length
  sc : FnScope e.N e.ps (defScope e.st)
  bi : ∀ (kV doc pm : Value) (an : Option Addr) (cdv ct : Value) (us : List Value), us.length = e.ps.length → bindArgs (PySem.W.fnOf e.name e.qual (defArgs e.st) (defBody e.st) (defScope e.st) .none kV doc pm an cdv ct) ⟨us, []⟩ = pure (e.ps.zip us)
def Ent.D (e : Ent) : He.DefD := ⟨e.at_, e.name, e.qual, defArgs e.st, defBody e.st, defScope e.st, [], []⟩
def defsOf (es : List Ent) (f : Nat) : Option FDef := (es.find? fun e => e.id == f).map (·.d)
def hasEnt (es : List Ent) (f : Nat) (p : Str × Option Str) : Bool := es.any fun e => e.id == f && e.at_ == p
/-- the tables say the same of each name -/
structure TabOk (T : Tab) (es : List Ent) : Prop where
  fns : (T.fns.all fun p => hasEnt es p.2 (p.1, none)) = true
  cls : (T.cls.all fun p => hasEnt es p.2.2 (p.1, some "__init__") && (T.cls.find? fun q => q.2.1 == p.2.1) == some p && (T.mtd.all fun q => q.1 != p.1 || hasEnt es q.2.2 (q.1, some q.2.1))) = true
  mts : (T.mts.all fun m => m.2.all fun cf => (T.cls.all fun p => p.2.1 != cf.1 || T.mtd.contains (p.1, m.1, cf.2)) && (atOf cf.1).all fun i => anOf i != m.1) = true
  ids : (es.map (·.id)).Nodup
/-- the facts that the head is asked -/
def faOf (T : Tab) : List He.Fa :=
  T.bis.map He.Fa.free ++ (T.cst.map (fun p => match p.2 with | .inl i => He.Fa.int p.1 i | .inr z => He.Fa.str p.1 z) ++ (T.fns.map (fun p => He.Fa.glo p.1) ++ (T.cls.map (fun p => He.Fa.glo p.1) ++ (T.cls.map (fun p => He.Fa.cls p.1) ++ (T.cls.map (fun p => He.Fa.mkr p.1) ++
    (T.cls.flatMap (fun p => (atOf p.2.1).map fun i => He.Fa.noat p.1 (anOf i)) ++ T.mtd.map fun q => He.Fa.meth q.1 q.2.1))))))
def prmOf (T : Tab) (K : PySem.W.Frag) (kl : Addr → List V → Prop) : Prm := ⟨K, kl, fun cn => (T.cls.find? fun q => q.2.1 == cn).map fun q => He.ga K q.1⟩
section
variable {T : Tab} {es : List Ent} {K : PySem.W.Frag} {kl : Addr → List V → Prop}
theorem FnOk.or {P : Program} {w : World} {mg : Str → Option Value} {base : Heap} {CX : CXT} {k : Nat} {f : Addr} {fd : FuncData} {ps : List Str} {sp sp' : Sp} (F : FnOk P w K mg base CX k f fd ps sp) (F' : FnOk P w K mg base CX k f fd ps sp') : FnOk P w K mg base CX k f fd ps (fun vs H Q E => sp vs H Q E ∨ sp' vs H Q E) :=
  ⟨fun vs H Q E h => h.elim (F.len vs H Q E) (F'.len vs H Q E), fun A outer s H args us vs Q E hr e0 b r h => h.elim (F.run A outer s H args us vs Q E hr e0 b r) (F'.run A outer s H args us vs Q E hr e0 b r)⟩
theorem FnOk.ex {ι : Type} {P : Program} {w : World} {mg : Str → Option Value} {base : Heap} {CX : CXT} {k : Nat} {f : Addr} {fd : FuncData} {ps : List Str} {sp : ι → Sp} (F : ∀ i, FnOk P w K mg base CX k f fd ps (sp i)) : FnOk P w K mg base CX k f fd ps (fun vs H Q E => ∃ i, sp i vs H Q E) :=
  ⟨fun vs H Q E ⟨i, h⟩ => (F i).len vs H Q E h, fun A outer s H args us vs Q E hr e0 b r ⟨i, h⟩ => (F i).run A outer s H args us vs Q E hr e0 b r h⟩
/-- what stands behind the top -/
structure Top (T : Tab) (es : List Ent) (K : PySem.W.Frag) (mg : Str → Option Value) : Prop where
  ents : ∀ e ∈ es, EntOk T e
  tab : TabOk T es
  fa : ∀ f ∈ faOf T, f.ok K = true
  fn : ∀ e ∈ es, ∃ fd, FunD K e.name e.qual (defArgs e.st) (defBody e.st) (defScope e.st) [] [] (He.fAd K e.at_) fd
  glo : ∀ x, (He.Fa.glo x).ok K = true → mg x = some (.ref (He.ga K x))
  free : ∀ x, (He.Fa.free x).ok K = true → mg x = none
  int : ∀ x i, (He.Fa.int x i).ok K = true → ∃ t, mg x = some (.int i t)
  str : ∀ x z, (He.Fa.str x z).ok K = true → ∃ t, mg x = some (.str z t)
variable {mg : Str → Option Value}
theorem Top.fBis (t : Top T es K mg) {x : Str} (h : x ∈ T.bis) : mg x = none := t.free x (t.fa _ (by simp only [faOf, List.mem_append]; exact .inl (List.mem_map_of_mem h)))
theorem Top.fFn (t : Top T es K mg) {p : Str × Nat} (h : p ∈ T.fns) : mg p.1 = some (.ref (He.ga K p.1)) := t.glo p.1 (t.fa _ (by simp only [faOf, List.mem_append]; exact .inr (.inr (.inl (List.mem_map_of_mem (f := fun p : Str × Nat => He.Fa.glo p.1) h)))))
theorem Top.fCg (t : Top T es K mg) {p : Str × Nat × Nat} (h : p ∈ T.cls) : mg p.1 = some (.ref (He.ga K p.1)) := t.glo p.1 (t.fa _ (by simp only [faOf, List.mem_append]; exact .inr (.inr (.inr (.inl (List.mem_map_of_mem (f := fun p : Str × Nat × Nat => He.Fa.glo p.1) h))))))
theorem Top.fCc (t : Top T es K mg) {p : Str × Nat × Nat} (h : p ∈ T.cls) : Cls K (He.ga K p.1) := He.cls_ok (t.fa _ (by simp only [faOf, List.mem_append]; exact .inr (.inr (.inr (.inr (.inl (List.mem_map_of_mem (f := fun p : Str × Nat × Nat => He.Fa.cls p.1) h)))))))
theorem Top.fCm (t : Top T es K mg) {p : Str × Nat × Nat} (h : p ∈ T.cls) : Mk K (He.ga K p.1) (He.ma K (He.ga K p.1) "__init__") := He.mkr_ok (t.fa _ (by simp only [faOf, List.mem_append]; exact .inr (.inr (.inr (.inr (.inr (.inl (List.mem_map_of_mem (f := fun p : Str × Nat × Nat => He.Fa.mkr p.1) h))))))))
theorem Top.fNa (t : Top T es K mg) {p : Str × Nat × Nat} (h : p ∈ T.cls) {i : Nat} (hi : i ∈ atOf p.2.1) : NoAttr K (He.ga K p.1) (anOf i) := He.noat_ok (t.fa _ (by
  simp only [faOf, List.mem_append]
  exact .inr (.inr (.inr (.inr (.inr (.inr (.inl (List.mem_flatMap.mpr ⟨p, h, List.mem_map_of_mem (f := fun i => He.Fa.noat p.1 (anOf i)) hi⟩)))))))))
theorem Top.fMt (t : Top T es K mg) {q : Str × Str × Nat} (h : q ∈ T.mtd) : Meth K (He.ga K q.1) q.2.1 (He.ma K (He.ga K q.1) q.2.1) := He.meth_ok (t.fa _ (by
  simp only [faOf, List.mem_append]
  exact .inr (.inr (.inr (.inr (.inr (.inr (.inr (List.mem_map_of_mem (f := fun q : Str × Str × Nat => He.Fa.meth q.1 q.2.1) h)))))))))
theorem prm_cls {cn : Nat} {C : Addr} (h : (prmOf T K kl).cls cn = some C) : ∃ p ∈ T.cls, p.2.1 = cn ∧ C = He.ga K p.1 := by
  unfold prmOf at h
  simp only [Option.map_eq_some_iff] at h
  obtain ⟨p, h1, rfl⟩ := h
  exact ⟨p, List.mem_of_find?_eq_some h1, by simpa using List.find?_some h1, rfl⟩
theorem Top.clss (t : Top T es K mg) : Clss (prmOf T K kl) where
  cl := fun c C h => by
    obtain ⟨p, h1, _, rfl⟩ := prm_cls h
    exact t.fCc h1
  na := fun c C i h hi => by
    obtain ⟨p, h1, rfl, rfl⟩ := prm_cls h
    exact t.fNa h1 hi
theorem has_ent {f : Nat} {p : Str × Option Str} (h : hasEnt es f p = true) : ∃ e ∈ es, e.id = f ∧ e.at_ = p := by
  unfold hasEnt at h
  rw [List.any_eq_true] at h
  obtain ⟨e, h1, h2⟩ := h
  rw [Bool.and_eq_true] at h2
  exact ⟨e, h1, by simpa using h2.1, by simpa using h2.2⟩
variable {prog : Program} {w : World} {base : Heap} {L : Nat} {bs : Nat → SpG}
/-- every def keeps its promise at a level -/
def AllOk (prog : Program) (w : World) (K : PySem.W.Frag) (mg : Str → Option Value) (base : Heap) (P : Prm) (es : List Ent) (L : Nat) (sp : Nat → SpG) : Prop :=
  ∀ e ∈ es, ∀ fd, FunD K e.name e.qual (defArgs e.st) (defBody e.st) (defScope e.st) [] [] (He.fAd K e.at_) fd → FnOk prog w K mg base CX0 L (He.fAd K e.at_) fd e.ps (lowSp P (sp e.id))
theorem fn_at (t : Top T es K mg) {P : Prm} {sp : Nat → SpG} (A : AllOk prog w K mg base P es L sp) {X : Cx} (hP : X.prog = prog) (hw : X.w = w) (hK : X.K = K) (hm : X.mg = mg) (hb : X.base = base) {c : Cal} (hc : c.fn = sp) {e : Ent} (he : e ∈ es) : FnAt X P c L e.id (He.fAd K e.at_) := by
  obtain ⟨fd, F⟩ := t.fn e he
  subst hP hw hK hm hb hc
  exact ⟨⟨fd, e.ps, A e he fd F, F.bindsN (t.ents e he).bi⟩, F.kp⟩
theorem lk_mem {α β : Type} [BEq α] [LawfulBEq α] {x : α} {v : β} : ∀ {l : List (α × β)}, l.lookup x = some v → (x, v) ∈ l
  | (y, u) :: r, h => by
    rw [List.lookup_cons] at h
    by_cases e : x = y
    · subst e
      rw [beq_self_eq_true] at h
      cases h
      exact List.mem_cons_self
    · have e2 : (x == y) = false := beq_eq_false_iff_ne.mpr e
      rw [e2] at h
      exact List.mem_cons_of_mem _ (lk_mem h)
theorem find_id : ∀ {es : List Ent} {e : Ent}, (es.map (·.id)).Nodup → e ∈ es → es.find? (fun e' => e'.id == e.id) = some e
  | a :: r, e, nd, h => by
    rw [List.map_cons, List.nodup_cons] at nd
    rw [List.find?_cons]
    rcases List.mem_cons.mp h with rfl | h
    · simp
    · have : (a.id == e.id) = false := beq_eq_false_iff_ne.mpr fun z => nd.1 (z ▸ List.mem_map_of_mem (f := fun e : Ent => e.id) h)
      rw [this]
      exact find_id nd.2 h
theorem ctx_of (t : Top T es K mg) {P : Prm} (hPr : P = prmOf T K kl) {sp : Nat → SpG} (A : AllOk prog w K mg base P es L sp) {X : Cx} (hP : X.prog = prog) (hw : X.w = w) (hK : X.K = K) (hm : X.mg = mg) (hb : X.base = base) {c : Cal} (hc : c.fn = sp) (hkl : c.kl = kl) (her : c.er = botE)
    {sc : Scope} {N : List Str} (h1 : X.calm = true) (h2 : X.xe = fun _ _ => False) (h3 : X.env.scope.kind = .function) (h4 : X.env.scope = sc) (h5 : X.N = N) (h6 : N.Nodup) (h7 : ∀ x, X.fn x = true) (h8 : Room (L + 1) X.A) : CtxOk P c L X (T.ce sc N) where
  K := by rw [hK, hPr]; rfl
  kl := by rw [hkl, hPr]; rfl
  er := her
  calm := h1
  xe := h2
  kind := h3
  sc := h4
  N := h5
  nd := by rw [h5]; exact h6
  fn := fun _ => h7
  hr := h8
  cl := by rw [hPr]; exact t.clss
  bis := fun x h => by rw [hm]; exact t.fBis h
  cst := fun x v h => by
    have hmem := lk_mem h
    obtain ⟨p, hp, e⟩ := List.mem_map.mp hmem
    injection e with e1 e2
    subst e1 e2
    rw [hm]
    have hf := t.fa _ (by simp only [faOf, List.mem_append]; exact .inr (.inl (List.mem_map_of_mem (f := fun p : Str × Sum Int Str => match p.2 with | .inl i => He.Fa.int p.1 i | .inr z => He.Fa.str p.1 z) hp)))
    obtain ⟨x, y⟩ := p
    cases y with
    | inl i => obtain ⟨u, e⟩ := t.int _ _ hf; exact ⟨_, e, u, rfl⟩
    | inr z => obtain ⟨u, e⟩ := t.str _ _ hf; exact ⟨_, e, u, rfl⟩
  fns := fun x f h => by
    have hp := lk_mem h
    obtain ⟨e, he, hid, hat⟩ := has_ent (List.all_eq_true.mp t.tab.fns _ hp)
    have z := fn_at t A hP hw hK hm hb hc he
    rw [hid, hat] at z
    rw [hm]
    exact ⟨_, t.fFn hp, z⟩
  cls := fun x cn f h => by
    have hp := lk_mem h
    have q := List.all_eq_true.mp t.tab.cls _ hp
    rw [Bool.and_eq_true, Bool.and_eq_true] at q
    obtain ⟨e, he, hid, hat⟩ := has_ent q.1.1
    have z := fn_at t A hP hw hK hm hb hc he
    rw [hid, hat] at z
    rw [hm, hK, hPr]
    have e1 : (T.cls.find? fun q => q.2.1 == cn) = some (x, cn, f) := by simpa using q.1.2
    refine ⟨He.ga K x, _, ?_, t.fCg hp, t.fCm hp, by rw [← hPr]; exact z⟩
    show ((T.cls.find? fun q => q.2.1 == cn).map fun q => He.ga K q.1) = _
    rw [e1]
    rfl
  mts := fun m ms h => by
    have hm' := List.all_eq_true.mp t.tab.mts _ (lk_mem h)
    refine ⟨fun cn f hl C hC => ?_, fun cn f hl i hi => ?_⟩
    · have q := List.all_eq_true.mp hm' _ (lk_mem hl)
      rw [Bool.and_eq_true] at q
      rw [hPr] at hC
      obtain ⟨p, hp, hcn, rfl⟩ := prm_cls hC
      have q1 := List.all_eq_true.mp q.1 p hp
      have q2 : (p.1, m, f) ∈ T.mtd := by
        rw [Bool.or_eq_true] at q1
        rcases q1 with q1 | q1
        · exact absurd hcn (by simpa using q1)
        · simpa using q1
      have q3 := List.all_eq_true.mp t.tab.cls _ hp
      rw [Bool.and_eq_true] at q3
      have q4 := List.all_eq_true.mp q3.2 _ q2
      rw [Bool.or_eq_true] at q4
      rcases q4 with q4 | q4
      · simp at q4
      · obtain ⟨e, he, hid, hat⟩ := has_ent q4
        have z := fn_at t A hP hw hK hm hb hc he
        rw [hid, hat] at z
        rw [hK]
        exact ⟨_, t.fMt q2, z⟩
    · have q := List.all_eq_true.mp hm' _ (lk_mem hl)
      rw [Bool.and_eq_true] at q
      have := List.all_eq_true.mp q.2 i hi
      simpa using this
theorem bot_er {E : XG} (hE : ∀ e g, ¬ E e g) : (fun (e : Nat) (_ : L2.St) (g' : G) => ∃ g'', Sub g'' g' ∧ E e g'') = botE := by
  funext e σ g'
  exact propext ⟨fun ⟨g'', _, h⟩ => hE _ _ h, fun h => h.elim⟩
theorem sys_ok (t : Top T es K mg) (A0 : AllOk prog w K mg base (prmOf T K kl) es L bs) : ∀ k, AllOk prog w K mg base (prmOf T K kl) es (L + 2 * k) (Gam kl bs (defsOf es) k)
  | 0 => fun e he fd F => A0 e he fd F
  | k + 1 => fun e he fd F => by
    have ih := sys_ok t A0 k
    have E := t.ents e he
    have F1 := (A0 e he fd F).mono (show L ≤ L + 2 * (k + 1) by omega)
    have hd : defsOf es e.id = some e.d := by
      unfold defsOf
      rw [find_id t.tab.ids he]
      rfl
    have F2 : FnOk prog w K mg base CX0 (L + 2 * (k + 1)) (He.fAd K e.at_) fd e.ps (lowSp (prmOf T K kl) fun vs g Q E' => vs.length = e.d.n ∧
        e.d.body ⟨kl, Gam kl bs (defsOf es) k, fun e _ g' => ∃ g'', Sub g'' g' ∧ E' e g''⟩ ⟨fun _ g' => ∃ g'', Sub g'' g' ∧ Q .non g'', fun v g' => ∃ g'', Sub g'' g' ∧ Q v g'', fun _ _ => False, fun _ _ => False⟩ (startG e.d.sz vs) g) := by
      have e3 : L + 2 * (k + 1) = (L + 2 * k + 1) + 1 := by omega
      rw [e3]
      refine F.ok E.sc (fun vs H Q _ h => ?_) (fun cdv A outer s H vs Q Ex hr h => ?_)
      · obtain ⟨g, Q', _, ⟨h, _⟩, _⟩ := h
        rw [h, E.n]
      · obtain ⟨g, Q', Ag, ⟨hl, hb⟩, i⟩ := h
        rw [bot_er (E := fun _ _ => False) (fun _ _ h => h)] at hb
        have e4 : startG e.d.sz vs = L2.start e.N vs := by unfold startG L2.start; rw [E.sz]
        rw [e4] at hb
        refine ⟨RS (prmOf T K kl) ⟨kl, Gam kl bs (defsOf es) k, botE⟩ e.d.body, PSs.nox ?_, g, _, Ag, hb, ⟨fun σ g H ⟨g2, hs, q⟩ A => i _ _ _ q (A.sub hs), fun v g H ⟨g2, hs, q⟩ A => i _ _ _ q (A.sub hs), fun _ _ _ h => h.elim, fun _ _ _ h => h.elim⟩⟩
        refine body_ok (k := L + 2 * k) (ce := T.ce (defScope e.st) e.N) ?_ rfl E.body
        exact ctx_of t rfl ih rfl rfl rfl rfl rfl rfl rfl rfl rfl rfl E.sc.kind rfl rfl E.sc.nd (fun _ => rfl) hr
    refine (SW.FnOk.or F1 F2).imp fun vs H Q Ex h => ?_
    obtain ⟨g, Q', A, h, i⟩ := h
    rcases h with h | h
    · exact .inl ⟨g, Q', A, h, i⟩
    · rw [hd] at h
      exact .inr ⟨g, Q', A, h, i⟩
end
end SW
end

section
set_option Elab.async false
set_option linter.all false
set_option maxRecDepth 100000
set_option maxHeartbeats 4000000
namespace SW
open PySem L2
abbrev F_is_plain : Nat := 2
/-- slots: thing 0, sign 1 -/
def b_is_plain : TSt := sSeq (sIf (tNot (tVal (eBi .isstr (lCons (eV 0) lNil)))) (sSeq (sRet (eC (.bl false))) sNext) sNext) (sSeq (sRet (eBi .all (lCons (eLc (iVal (eV 0)) (gN 1) tYes (eOr (eChn (eC (.str " ")) [(.LtE, eV 1), (.LtE, eC (.str "~"))]) (eCmp .Eq (eV 1) (eC (.str "\n")))) [1]) lNil))) sNext)
def d_is_plain : FDef := ⟨1, 2, b_is_plain⟩
abbrev F_is_name : Nat := 3
/-- slots: thing 0, sign 1 -/
def b_is_name : TSt := sSeq (sIf (tOr (tNot (tVal (eBi .isstr (lCons (eV 0) lNil)))) (tNot (tBl (eChn (eC (.int 1)) [(.LtE, eBi .len (lCons (eV 0) lNil)), (.LtE, eC (.int 8))])))) (sSeq (sRet (eC (.bl false))) sNext) sNext) (sSeq (sRet (eBi .all (lCons (eLc (iVal (eV 0)) (gN 1) tYes (eCmp .In (eV 1) (eC (.str "abcdefghijklmnopqrstuvwxyz"))) [1]) lNil))) sNext)
def d_is_name : FDef := ⟨1, 2, b_is_name⟩
abbrev F_ends_in : Nat := 4
/-- slots: plain 0 -/
def b_ends_in : TSt := sSeq (sRet (eBm .count (eV 0) (lCons (eC (.str "\n")) lNil))) sNext
def d_ends_in : FDef := ⟨1, 1, b_ends_in⟩
abbrev F_Shelf___init__ : Nat := 9
/-- slots: self 0 -/
def b_Shelf___init__ : TSt := sSeq (sSetAt (eV 0) 0 (eLst (lCons (eC .non) lNil))) (sSeq (sSetAt (eV 0) 1 eDict0) (sSeq (sSetAt (eV 0) 2 (eLst (lCons (eC (.int 0)) lNil))) (sSeq (sSetAt (eV 0) 3 (eLst (lCons (eC (.int 0)) lNil))) (sSeq (sSetAt (eV 0) 4 (eLst (lCons (eC (.int 0)) lNil))) (sSeq (sSetAt (eV 0) 5 (eLst (lCons (eNeg (eC (.int 1))) lNil))) (sSeq (sSetAt (eV 0) 6 (eLst (lCons (eC (.int 0)) lNil))) (sSeq (sSetAt (eV 0) 7 (eLst (lCons (eC (.int 0)) lNil))) sNext)))))))
def d_Shelf___init__ : FDef := ⟨1, 1, b_Shelf___init__⟩
abbrev F_Shelf_want : Nat := 10
/-- slots: self 0, text 1 -/
def b_Shelf_want : TSt := sSeq (sIf (tNot (tBl (eChn (eC (.int 0)) [(.LtE, eV 1), (.Lt, eBi .len (lCons (eAt (eV 0) 0) lNil))]))) (sSeq (sRaise 2) sNext) sNext) sNext
def d_Shelf_want : FDef := ⟨2, 2, b_Shelf_want⟩
abbrev F_Shelf_want_piece : Nat := 11
/-- slots: self 0, number 1 -/
def b_Shelf_want_piece : TSt := sSeq (sIf (tNot (tBl (eChn (eC (.int 0)) [(.Lt, eV 1), (.Lt, eBi .len (lCons (eAt (eV 0) 0) lNil))]))) (sSeq (sRaise 2) sNext) sNext) sNext
def d_Shelf_want_piece : FDef := ⟨2, 2, b_Shelf_want_piece⟩
abbrev F_Shelf_many : Nat := 12
/-- slots: self 0 -/
def b_Shelf_many : TSt := sSeq (sRet (eBin .Sub (eBi .len (lCons (eAt (eV 0) 0) lNil)) (eC (.int 1)))) sNext
def d_Shelf_many : FDef := ⟨1, 1, b_Shelf_many⟩
abbrev F_Shelf_piece : Nat := 13
/-- slots: self 0, number 1 -/
def b_Shelf_piece : TSt := sSeq (sDrop (eMt [(0, 11)] (eV 0) (lCons (eV 1) lNil))) (sSeq (sRet (eIx (eAt (eV 0) 0) (eV 1))) sNext)
def d_Shelf_piece : FDef := ⟨2, 2, b_Shelf_piece⟩
abbrev F_Shelf_signs : Nat := 14
/-- slots: self 0, text 1 -/
def b_Shelf_signs : TSt := sSeq (sDrop (eMt [(0, 10)] (eV 0) (lCons (eV 1) lNil))) (sSeq (sRet (eIx (eAt (eV 0) 2) (eV 1))) sNext)
def d_Shelf_signs : FDef := ⟨2, 2, b_Shelf_signs⟩
abbrev F_Shelf_ends : Nat := 15
/-- slots: self 0, text 1 -/
def b_Shelf_ends : TSt := sSeq (sDrop (eMt [(0, 10)] (eV 0) (lCons (eV 1) lNil))) (sSeq (sRet (eIx (eAt (eV 0) 3) (eV 1))) sNext)
def d_Shelf_ends : FDef := ⟨2, 2, b_Shelf_ends⟩
abbrev F_Shelf_leaves : Nat := 16
/-- slots: self 0, text 1 -/
def b_Shelf_leaves : TSt := sSeq (sDrop (eMt [(0, 10)] (eV 0) (lCons (eV 1) lNil))) (sSeq (sRet (eIx (eAt (eV 0) 4) (eV 1))) sNext)
def d_Shelf_leaves : FDef := ⟨2, 2, b_Shelf_leaves⟩
abbrev F_Shelf_height : Nat := 17
/-- slots: self 0, text 1 -/
def b_Shelf_height : TSt := sSeq (sDrop (eMt [(0, 10)] (eV 0) (lCons (eV 1) lNil))) (sSeq (sRet (eIx (eAt (eV 0) 5) (eV 1))) sNext)
def d_Shelf_height : FDef := ⟨2, 2, b_Shelf_height⟩
abbrev F_Shelf_first_leaf : Nat := 18
/-- slots: self 0, text 1 -/
def b_Shelf_first_leaf : TSt := sSeq (sDrop (eMt [(0, 10)] (eV 0) (lCons (eV 1) lNil))) (sSeq (sRet (eIx (eAt (eV 0) 6) (eV 1))) sNext)
def d_Shelf_first_leaf : FDef := ⟨2, 2, b_Shelf_first_leaf⟩
abbrev F_Shelf_last_leaf : Nat := 19
/-- slots: self 0, text 1 -/
def b_Shelf_last_leaf : TSt := sSeq (sDrop (eMt [(0, 10)] (eV 0) (lCons (eV 1) lNil))) (sSeq (sRet (eIx (eAt (eV 0) 7) (eV 1))) sNext)
def d_Shelf_last_leaf : FDef := ⟨2, 2, b_Shelf_last_leaf⟩
abbrev F_Shelf_laid : Nat := 20
/-- slots: self 0, piece 1, signs 2, ends 3, leaves 4, height 5, number 6 -/
def b_Shelf_laid : TSt := sSeq (sAsg (eBi .len (lCons (eAt (eV 0) 0) lNil)) (gN 6)) (sSeq (sDrop (eBm .append (eAt (eV 0) 0) (lCons (eV 1) lNil))) (sSeq (sSetIx (eAt (eV 0) 1) (eV 1) (eV 6)) (sSeq (sDrop (eBm .append (eAt (eV 0) 2) (lCons (eV 2) lNil))) (sSeq (sDrop (eBm .append (eAt (eV 0) 3) (lCons (eV 3) lNil))) (sSeq (sDrop (eBm .append (eAt (eV 0) 4) (lCons (eV 4) lNil))) (sSeq (sDrop (eBm .append (eAt (eV 0) 5) (lCons (eV 5) lNil))) (sSeq (sRet (eV 6)) sNext)))))))
def d_Shelf_laid : FDef := ⟨6, 7, b_Shelf_laid⟩
abbrev F_Shelf_leaf : Nat := 21
/-- slots: self 0, plain 1, piece 2, number 3 -/
def b_Shelf_leaf : TSt := sSeq (sIf (tOr (tNot (tVal (eFn 2 (lCons (eV 1) lNil)))) (tNot (tBl (eChn (eC (.int 1)) [(.LtE, eBi .len (lCons (eV 1) lNil)), (.LtE, eC (.int 8))])))) (sSeq (sRaise 1) sNext) sNext) (sSeq (sAsg (eTup (lCons (eC (.str "leaf")) (lCons (eV 1) lNil))) (gN 2)) (sSeq (sIf (tBl (eCmp .In (eV 2) (eAt (eV 0) 1))) (sSeq (sRet (eIx (eAt (eV 0) 1) (eV 2))) sNext) sNext) (sSeq (sAsg (eMt [(0, 20)] (eV 0) (lCons (eV 2) (lCons (eBi .len (lCons (eV 1) lNil)) (lCons (eFn 4 (lCons (eV 1) lNil)) (lCons (eC (.int 1)) (lCons (eC (.int 0)) lNil)))))) (gN 3)) (sSeq (sDrop (eBm .append (eAt (eV 0) 6) (lCons (eV 3) lNil))) (sSeq (sDrop (eBm .append (eAt (eV 0) 7) (lCons (eV 3) lNil))) (sSeq (sRet (eV 3)) sNext))))))
def d_Shelf_leaf : FDef := ⟨2, 4, b_Shelf_leaf⟩
abbrev F_Shelf_fork : Nat := 22
/-- slots: self 0, one 1, other 2, heights 3, signs 4, piece 5, ends 6, leaves 7, number 8 -/
def b_Shelf_fork : TSt := sSeq (sDrop (eMt [(0, 11)] (eV 0) (lCons (eV 1) lNil))) (sSeq (sDrop (eMt [(0, 11)] (eV 0) (lCons (eV 2) lNil))) (sSeq (sIf (tVal (eMt [(0, 23)] (eV 0) (lCons (eV 1) (lCons (eV 2) lNil)))) (sSeq (sRaise 3) sNext) sNext) (sSeq (sAsg (eLst (lCons (eIx (eAt (eV 0) 5) (eV 1)) (lCons (eIx (eAt (eV 0) 5) (eV 2)) lNil))) (gN 3)) (sSeq (sIf (tBl (eCmp .Gt (eBin .Sub (eBi .max (lCons (eV 3) lNil)) (eBi .min (lCons (eV 3) lNil))) (eC (.int 1)))) (sSeq (sRaise 4) sNext) sNext) (sSeq (sAsg (eBin .Add (eIx (eAt (eV 0) 2) (eV 1)) (eIx (eAt (eV 0) 2) (eV 2))) (gN 4)) (sSeq (sIf (tBl (eCmp .Gt (eV 4) (eC (.int 1000000000000000000)))) (sSeq (sRaise 5) sNext) sNext) (sSeq (sAsg (eTup (lCons (eC (.str "fork")) (lCons (eV 1) (lCons (eV 2) lNil)))) (gN 5)) (sSeq (sIf (tBl (eCmp .In (eV 5) (eAt (eV 0) 1))) (sSeq (sRet (eIx (eAt (eV 0) 1) (eV 5))) sNext) sNext) (sSeq (sAsg (eBin .Add (eIx (eAt (eV 0) 3) (eV 1)) (eIx (eAt (eV 0) 3) (eV 2))) (gN 6)) (sSeq (sAsg (eBin .Add (eIx (eAt (eV 0) 4) (eV 1)) (eIx (eAt (eV 0) 4) (eV 2))) (gN 7)) (sSeq (sAsg (eMt [(0, 20)] (eV 0) (lCons (eV 5) (lCons (eV 4) (lCons (eV 6) (lCons (eV 7) (lCons (eBin .Add (eC (.int 1)) (eBi .max (lCons (eV 3) lNil))) lNil)))))) (gN 8)) (sSeq (sDrop (eBm .append (eAt (eV 0) 6) (lCons (eIx (eAt (eV 0) 6) (eV 1)) lNil))) (sSeq (sDrop (eBm .append (eAt (eV 0) 7) (lCons (eIx (eAt (eV 0) 7) (eV 2)) lNil))) (sSeq (sRet (eV 8)) sNext))))))))))))))
def d_Shelf_fork : FDef := ⟨3, 9, b_Shelf_fork⟩
abbrev F_Shelf_is_loose : Nat := 23
/-- slots: self 0, one 1, other 2 -/
def b_Shelf_is_loose : TSt := sSeq (sRet (eCmp .LtE (eBin .Add (eIx (eAt (eV 0) 2) (eIx (eAt (eV 0) 7) (eV 1))) (eIx (eAt (eV 0) 2) (eIx (eAt (eV 0) 6) (eV 2)))) (eC (.int 8)))) sNext
def d_Shelf_is_loose : FDef := ⟨3, 3, b_Shelf_is_loose⟩
abbrev F_is_leaf : Nat := 39
/-- slots: shelf 0, text 1 -/
def b_is_leaf : TSt := sSeq (sRet (eCmp .Eq (eMt [(0, 17)] (eV 0) (lCons (eV 1) lNil)) (eC (.int 0)))) sNext
def d_is_leaf : FDef := ⟨2, 2, b_is_leaf⟩
abbrev F_parts_of : Nat := 40
/-- slots: shelf 0, text 1, word 2, one 3, other 4 -/
def b_parts_of : TSt := sSeq (sAsg (eMt [(0, 13)] (eV 0) (lCons (eV 1) lNil)) (gTp [2, 3, 4])) (sSeq (sRet (eTup (lCons (eV 3) (lCons (eV 4) lNil)))) sNext)
def d_parts_of : FDef := ⟨2, 5, b_parts_of⟩
abbrev F_turned_right : Nat := 41
/-- slots: shelf 0, one 1, other 2, inner 3, outer 4, left 5, right 6 -/
def b_turned_right : TSt := sSeq (sAsg (eFn 40 (lCons (eV 0) (lCons (eV 2) lNil))) (gTp [3, 4])) (sSeq (sIf (tBl (eCmp .LtE (eMt [(0, 17)] (eV 0) (lCons (eV 3) lNil)) (eMt [(0, 17)] (eV 0) (lCons (eV 4) lNil)))) (sSeq (sRet (eMt [(0, 22)] (eV 0) (lCons (eMt [(0, 22)] (eV 0) (lCons (eV 1) (lCons (eV 3) lNil))) (lCons (eV 4) lNil)))) sNext) sNext) (sSeq (sAsg (eFn 40 (lCons (eV 0) (lCons (eV 3) lNil))) (gTp [5, 6])) (sSeq (sRet (eMt [(0, 22)] (eV 0) (lCons (eMt [(0, 22)] (eV 0) (lCons (eV 1) (lCons (eV 5) lNil))) (lCons (eMt [(0, 22)] (eV 0) (lCons (eV 6) (lCons (eV 4) lNil))) lNil)))) sNext)))
def d_turned_right : FDef := ⟨3, 7, b_turned_right⟩
abbrev F_turned_left : Nat := 42
/-- slots: shelf 0, one 1, other 2, outer 3, inner 4, left 5, right 6 -/
def b_turned_left : TSt := sSeq (sAsg (eFn 40 (lCons (eV 0) (lCons (eV 1) lNil))) (gTp [3, 4])) (sSeq (sIf (tBl (eCmp .LtE (eMt [(0, 17)] (eV 0) (lCons (eV 4) lNil)) (eMt [(0, 17)] (eV 0) (lCons (eV 3) lNil)))) (sSeq (sRet (eMt [(0, 22)] (eV 0) (lCons (eV 3) (lCons (eMt [(0, 22)] (eV 0) (lCons (eV 4) (lCons (eV 2) lNil))) lNil)))) sNext) sNext) (sSeq (sAsg (eFn 40 (lCons (eV 0) (lCons (eV 4) lNil))) (gTp [5, 6])) (sSeq (sRet (eMt [(0, 22)] (eV 0) (lCons (eMt [(0, 22)] (eV 0) (lCons (eV 3) (lCons (eV 5) lNil))) (lCons (eMt [(0, 22)] (eV 0) (lCons (eV 6) (lCons (eV 2) lNil))) lNil)))) sNext)))
def d_turned_left : FDef := ⟨3, 7, b_turned_left⟩
abbrev F_levelled : Nat := 43
/-- slots: shelf 0, one 1, other 2 -/
def b_levelled : TSt := sSeq (sIf (tBl (eCmp .Gt (eMt [(0, 17)] (eV 0) (lCons (eV 2) lNil)) (eBin .Add (eMt [(0, 17)] (eV 0) (lCons (eV 1) lNil)) (eC (.int 1))))) (sSeq (sRet (eFn 41 (lCons (eV 0) (lCons (eV 1) (lCons (eV 2) lNil))))) sNext) sNext) (sSeq (sIf (tBl (eCmp .Gt (eMt [(0, 17)] (eV 0) (lCons (eV 1) lNil)) (eBin .Add (eMt [(0, 17)] (eV 0) (lCons (eV 2) lNil)) (eC (.int 1))))) (sSeq (sRet (eFn 42 (lCons (eV 0) (lCons (eV 1) (lCons (eV 2) lNil))))) sNext) sNext) (sSeq (sRet (eMt [(0, 22)] (eV 0) (lCons (eV 1) (lCons (eV 2) lNil)))) sNext))
def d_levelled : FDef := ⟨3, 3, b_levelled⟩
abbrev F_linked : Nat := 44
/-- slots: shelf 0, one 1, other 2, first 3, last 4 -/
def b_linked : TSt := sSeq (sIf (tOr (tBl (eCmp .Eq (eV 1) (eC (.int 0)))) (tBl (eCmp .Eq (eV 2) (eC (.int 0))))) (sSeq (sRet (eBin .Add (eV 1) (eV 2))) sNext) sNext) (sSeq (sIf (tBl (eCmp .Gt (eMt [(0, 17)] (eV 0) (lCons (eV 1) lNil)) (eBin .Add (eMt [(0, 17)] (eV 0) (lCons (eV 2) lNil)) (eC (.int 1))))) (sSeq (sAsg (eFn 40 (lCons (eV 0) (lCons (eV 1) lNil))) (gTp [3, 4])) (sSeq (sRet (eFn 43 (lCons (eV 0) (lCons (eV 3) (lCons (eFn 44 (lCons (eV 0) (lCons (eV 4) (lCons (eV 2) lNil)))) lNil))))) sNext)) sNext) (sSeq (sIf (tBl (eCmp .Gt (eMt [(0, 17)] (eV 0) (lCons (eV 2) lNil)) (eBin .Add (eMt [(0, 17)] (eV 0) (lCons (eV 1) lNil)) (eC (.int 1))))) (sSeq (sAsg (eFn 40 (lCons (eV 0) (lCons (eV 2) lNil))) (gTp [3, 4])) (sSeq (sRet (eFn 43 (lCons (eV 0) (lCons (eFn 44 (lCons (eV 0) (lCons (eV 1) (lCons (eV 3) lNil)))) (lCons (eV 4) lNil))))) sNext)) sNext) (sSeq (sRet (eMt [(0, 22)] (eV 0) (lCons (eV 1) (lCons (eV 2) lNil)))) sNext)))
def d_linked : FDef := ⟨3, 5, b_linked⟩
abbrev F_without_last : Nat := 45
/-- slots: shelf 0, text 1, one 2, other 3 -/
def b_without_last : TSt := sSeq (sIf (tVal (eFn 39 (lCons (eV 0) (lCons (eV 1) lNil)))) (sSeq (sRet (eC (.int 0))) sNext) sNext) (sSeq (sAsg (eFn 40 (lCons (eV 0) (lCons (eV 1) lNil))) (gTp [2, 3])) (sSeq (sRet (eFn 44 (lCons (eV 0) (lCons (eV 2) (lCons (eFn 45 (lCons (eV 0) (lCons (eV 3) lNil))) lNil))))) sNext))
def d_without_last : FDef := ⟨2, 4, b_without_last⟩
abbrev F_without_first : Nat := 46
/-- slots: shelf 0, text 1, one 2, other 3 -/
def b_without_first : TSt := sSeq (sIf (tVal (eFn 39 (lCons (eV 0) (lCons (eV 1) lNil)))) (sSeq (sRet (eC (.int 0))) sNext) sNext) (sSeq (sAsg (eFn 40 (lCons (eV 0) (lCons (eV 1) lNil))) (gTp [2, 3])) (sSeq (sRet (eFn 44 (lCons (eV 0) (lCons (eFn 46 (lCons (eV 0) (lCons (eV 2) lNil))) (lCons (eV 3) lNil))))) sNext))
def d_without_first : FDef := ⟨2, 4, b_without_first⟩
abbrev F_leaf_text : Nat := 47
/-- slots: shelf 0, number 1 -/
def b_leaf_text : TSt := sSeq (sRet (eIx (eMt [(0, 13)] (eV 0) (lCons (eV 1) lNil)) (eC (.int 1)))) sNext
def d_leaf_text : FDef := ⟨2, 2, b_leaf_text⟩
abbrev F_poured : Nat := 48
/-- slots: shelf 0, one 1, other 2, last 3, first 4, amid 5 -/
def b_poured : TSt := sSeq (sAsg (eFn 47 (lCons (eV 0) (lCons (eMt [(0, 19)] (eV 0) (lCons (eV 1) lNil)) lNil))) (gN 3)) (sSeq (sAsg (eFn 47 (lCons (eV 0) (lCons (eMt [(0, 18)] (eV 0) (lCons (eV 2) lNil)) lNil))) (gN 4)) (sSeq (sAsg (eMt [(0, 21)] (eV 0) (lCons (eBin .Add (eV 3) (eV 4)) lNil)) (gN 5)) (sSeq (sRet (eFn 44 (lCons (eV 0) (lCons (eFn 44 (lCons (eV 0) (lCons (eFn 45 (lCons (eV 0) (lCons (eV 1) lNil))) (lCons (eV 5) lNil)))) (lCons (eFn 46 (lCons (eV 0) (lCons (eV 2) lNil))) lNil))))) sNext)))
def d_poured : FDef := ⟨3, 6, b_poured⟩
abbrev F_joined : Nat := 49
/-- slots: shelf 0, one 1, other 2 -/
def b_joined : TSt := sSeq (sIf (tBl (eCmp .Gt (eBin .Add (eMt [(0, 14)] (eV 0) (lCons (eV 1) lNil)) (eMt [(0, 14)] (eV 0) (lCons (eV 2) lNil))) (eC (.int 1000000000000000000)))) (sSeq (sRaise 5) sNext) sNext) (sSeq (sIf (tOr (tBl (eCmp .Eq (eV 1) (eC (.int 0)))) (tBl (eCmp .Eq (eV 2) (eC (.int 0))))) (sSeq (sRet (eBin .Add (eV 1) (eV 2))) sNext) sNext) (sSeq (sIf (tVal (eMt [(0, 23)] (eV 0) (lCons (eV 1) (lCons (eV 2) lNil)))) (sSeq (sRet (eFn 48 (lCons (eV 0) (lCons (eV 1) (lCons (eV 2) lNil))))) sNext) sNext) (sSeq (sRet (eFn 44 (lCons (eV 0) (lCons (eV 1) (lCons (eV 2) lNil))))) sNext)))
def d_joined : FDef := ⟨3, 3, b_joined⟩
abbrev F_built_of : Nat := 50
/-- slots: shelf 0, leaves 1, half 2 -/
def b_built_of : TSt := sSeq (sIf (tBl (eCmp .Eq (eBi .len (lCons (eV 1) lNil)) (eC (.int 1)))) (sSeq (sRet (eIx (eV 1) (eC (.int 0)))) sNext) sNext) (sSeq (sAsg (eBin .FloorDiv (eBi .len (lCons (eV 1) lNil)) (eC (.int 2))) (gN 2)) (sSeq (sRet (eMt [(0, 22)] (eV 0) (lCons (eFn 50 (lCons (eV 0) (lCons (eSl (eV 1) oNone (oSome (eV 2))) lNil))) (lCons (eFn 50 (lCons (eV 0) (lCons (eSl (eV 1) (oSome (eV 2)) oNone) lNil))) lNil)))) sNext))
def d_built_of : FDef := ⟨2, 3, b_built_of⟩
abbrev F_built : Nat := 51
/-- slots: shelf 0, plain 1, leaves 2, start 3 -/
def b_built : TSt := sSeq (sIf (tNot (tVal (eFn 2 (lCons (eV 1) lNil)))) (sSeq (sRaise 1) sNext) sNext) (sSeq (sIf (tBl (eCmp .Gt (eBi .len (lCons (eV 1) lNil)) (eC (.int 10000)))) (sSeq (sRaise 5) sNext) sNext) (sSeq (sIf (tBl (eCmp .Eq (eV 1) (eC (.str "")))) (sSeq (sRet (eC (.int 0))) sNext) sNext) (sSeq (sAsg (eLst lNil) (gN 2)) (sSeq (sFor (iRng3 (eC (.int 0)) (eBi .len (lCons (eV 1) lNil)) (eC (.int 8))) (gN 3) (sSeq (sDrop (eBm .append (eV 2) (lCons (eMt [(0, 21)] (eV 0) (lCons (eSl (eV 1) (oSome (eV 3)) (oSome (eBin .Add (eV 3) (eC (.int 8))))) lNil)) lNil))) sNext)) (sSeq (sRet (eFn 50 (lCons (eV 0) (lCons (eV 2) lNil)))) sNext)))))
def d_built : FDef := ⟨2, 4, b_built⟩
abbrev F_repeated : Nat := 52
/-- slots: shelf 0, text 1, many 2, found 3, twice 4 -/
def b_repeated : TSt := sSeq (sIf (tBl (eCmp .Lt (eV 2) (eC (.int 0)))) (sSeq (sDrop (eMt [(0, 10)] (eV 0) (lCons (eV 1) lNil))) (sSeq (sRaise 6) sNext)) sNext) (sSeq (sIf (tBl (eCmp .Gt (eBin .Mult (eMt [(0, 14)] (eV 0) (lCons (eV 1) lNil)) (eV 2)) (eC (.int 1000000000000000000)))) (sSeq (sRaise 5) sNext) sNext) (sSeq (sAsg (eC (.int 0)) (gN 3)) (sSeq (sAsg (eV 1) (gN 4)) (sSeq (sWhile (tAnd (tBl (eCmp .Gt (eV 2) (eC (.int 0)))) (tBl (eCmp .NotEq (eV 1) (eC (.int 0))))) (sSeq (sIf (tBl (eCmp .Eq (eBin .Mod (eV 2) (eC (.int 2))) (eC (.int 1)))) (sSeq (sAsg (eFn 49 (lCons (eV 0) (lCons (eV 3) (lCons (eV 4) lNil)))) (gN 3)) sNext) sNext) (sSeq (sAsg (eBin .FloorDiv (eV 2) (eC (.int 2))) (gN 2)) (sSeq (sIf (tBl (eCmp .Gt (eV 2) (eC (.int 0)))) (sSeq (sAsg (eFn 49 (lCons (eV 0) (lCons (eV 4) (lCons (eV 4) lNil)))) (gN 4)) sNext) sNext) sNext)))) (sSeq (sRet (eV 3)) sNext)))))
def d_repeated : FDef := ⟨3, 5, b_repeated⟩
abbrev F_want_stretch : Nat := 53
/-- slots: shelf 0, text 1, begin 2, end 3, signs 4 -/
def b_want_stretch : TSt := sSeq (sAsg (eMt [(0, 14)] (eV 0) (lCons (eV 1) lNil)) (gN 4)) (sSeq (sIf (tNot (tBl (eChn (eC (.int 0)) [(.LtE, eV 2), (.LtE, eV 3), (.LtE, eV 4)]))) (sSeq (sRaise 6) sNext) sNext) sNext)
def d_want_stretch : FDef := ⟨4, 5, b_want_stretch⟩
abbrev F_leaf_cut : Nat := 54
/-- slots: shelf 0, leaf 1, at 2, plain 3, parts 4, part 5 -/
def b_leaf_cut : TSt := sSeq (sAsg (eFn 47 (lCons (eV 0) (lCons (eV 1) lNil))) (gN 3)) (sSeq (sAsg (eLst lNil) (gN 4)) (sSeq (sFor (iVal (eLst (lCons (eSl (eV 3) oNone (oSome (eV 2))) (lCons (eSl (eV 3) (oSome (eV 2)) oNone) lNil)))) (gN 5) (sSeq (sIf (tBl (eCmp .Eq (eV 5) (eC (.str "")))) (sSeq (sDrop (eBm .append (eV 4) (lCons (eC (.int 0)) lNil))) sNext) (sSeq (sDrop (eBm .append (eV 4) (lCons (eMt [(0, 21)] (eV 0) (lCons (eV 5) lNil)) lNil))) sNext)) sNext)) (sSeq (sRet (eTup (lCons (eIx (eV 4) (eC (.int 0))) (lCons (eIx (eV 4) (eC (.int 1))) lNil)))) sNext)))
def d_leaf_cut : FDef := ⟨3, 6, b_leaf_cut⟩
abbrev F_halves : Nat := 55
/-- slots: shelf 0, text 1, at 2, one 3, other 4, ahead 5, left 6, right 7 -/
def b_halves : TSt := sSeq (sIf (tBl (eCmp .Eq (eV 2) (eC (.int 0)))) (sSeq (sRet (eTup (lCons (eC (.int 0)) (lCons (eV 1) lNil)))) sNext) sNext) (sSeq (sIf (tBl (eCmp .Eq (eV 2) (eMt [(0, 14)] (eV 0) (lCons (eV 1) lNil)))) (sSeq (sRet (eTup (lCons (eV 1) (lCons (eC (.int 0)) lNil)))) sNext) sNext) (sSeq (sIf (tVal (eFn 39 (lCons (eV 0) (lCons (eV 1) lNil)))) (sSeq (sRet (eFn 54 (lCons (eV 0) (lCons (eV 1) (lCons (eV 2) lNil))))) sNext) sNext) (sSeq (sAsg (eFn 40 (lCons (eV 0) (lCons (eV 1) lNil))) (gTp [3, 4])) (sSeq (sAsg (eMt [(0, 14)] (eV 0) (lCons (eV 3) lNil)) (gN 5)) (sSeq (sIf (tBl (eCmp .Lt (eV 2) (eV 5))) (sSeq (sAsg (eFn 55 (lCons (eV 0) (lCons (eV 3) (lCons (eV 2) lNil)))) (gTp [6, 7])) (sSeq (sRet (eTup (lCons (eV 6) (lCons (eFn 49 (lCons (eV 0) (lCons (eV 7) (lCons (eV 4) lNil)))) lNil)))) sNext)) sNext) (sSeq (sAsg (eFn 55 (lCons (eV 0) (lCons (eV 4) (lCons (eBin .Sub (eV 2) (eV 5)) lNil)))) (gTp [6, 7])) (sSeq (sRet (eTup (lCons (eFn 49 (lCons (eV 0) (lCons (eV 3) (lCons (eV 6) lNil)))) (lCons (eV 7) lNil)))) sNext)))))))
def d_halves : FDef := ⟨3, 8, b_halves⟩
abbrev F_put_in : Nat := 57
/-- slots: shelf 0, text 1, at 2, other 3, signs 4, left 5, right 6 -/
def b_put_in : TSt := sSeq (sAsg (eBin .Add (eMt [(0, 14)] (eV 0) (lCons (eV 1) lNil)) (eMt [(0, 14)] (eV 0) (lCons (eV 3) lNil))) (gN 4)) (sSeq (sDrop (eFn 53 (lCons (eV 0) (lCons (eV 1) (lCons (eV 2) (lCons (eMt [(0, 14)] (eV 0) (lCons (eV 1) lNil)) lNil)))))) (sSeq (sIf (tBl (eCmp .Gt (eV 4) (eC (.int 1000000000000000000)))) (sSeq (sRaise 5) sNext) sNext) (sSeq (sAsg (eFn 55 (lCons (eV 0) (lCons (eV 1) (lCons (eV 2) lNil)))) (gTp [5, 6])) (sSeq (sRet (eFn 49 (lCons (eV 0) (lCons (eFn 49 (lCons (eV 0) (lCons (eV 5) (lCons (eV 3) lNil)))) (lCons (eV 6) lNil))))) sNext))))
def d_put_in : FDef := ⟨4, 7, b_put_in⟩
abbrev F_taken_out : Nat := 58
/-- slots: shelf 0, text 1, begin 2, end 3, left 4 -/
def b_taken_out : TSt := sSeq (sDrop (eFn 53 (lCons (eV 0) (lCons (eV 1) (lCons (eV 2) (lCons (eV 3) lNil)))))) (sSeq (sAsg (eIx (eFn 55 (lCons (eV 0) (lCons (eV 1) (lCons (eV 2) lNil)))) (eC (.int 0))) (gN 4)) (sSeq (sRet (eFn 49 (lCons (eV 0) (lCons (eV 4) (lCons (eIx (eFn 55 (lCons (eV 0) (lCons (eV 1) (lCons (eV 3) lNil)))) (eC (.int 1))) lNil))))) sNext))
def d_taken_out : FDef := ⟨4, 5, b_taken_out⟩
abbrev F_House___init__ : Nat := 103
/-- slots: self 0 -/
def b_House___init__ : TSt := sSeq (sSetAt (eV 0) 17 (eMk 0 9 lNil)) (sSeq (sSetAt (eV 0) 15 eDict0) (sSeq (sSetAt (eV 0) 18 (eLst lNil)) (sSeq (sSetAt (eV 0) 19 (eLst lNil)) sNext)))
def d_House___init__ : FDef := ⟨1, 1, b_House___init__⟩
abbrev F_House_shelf : Nat := 104
/-- slots: self 0 -/
def b_House_shelf : TSt := sSeq (sRet (eAt (eV 0) 17)) sNext
def d_House_shelf : FDef := ⟨1, 1, b_House_shelf⟩
abbrev F_House_text : Nat := 106
/-- slots: self 0, name 1 -/
def b_House_text : TSt := sSeq (sIf (tBl (eCmp .NotIn (eV 1) (eAt (eV 0) 15))) (sSeq (sRaise 7) sNext) sNext) (sSeq (sRet (eIx (eAt (eV 0) 15) (eV 1))) sNext)
def d_House_text : FDef := ⟨2, 2, b_House_text⟩
abbrev F_House_step : Nat := 107
/-- slots: self 0, known 1 -/
def b_House_step : TSt := sSeq (sDrop (eBm .append (eAt (eV 0) 18) (lCons (eAt (eV 0) 15) lNil))) (sSeq (sSetAt (eV 0) 15 (eV 1)) (sSeq (sSetAt (eV 0) 19 (eLst lNil)) sNext))
def d_House_step : FDef := ⟨2, 2, b_House_step⟩
abbrev F_House_given : Nat := 108
/-- slots: self 0, name 1, number 2, known 3 -/
def b_House_given : TSt := sSeq (sAsg (eBi .dict (lCons (eAt (eV 0) 15) lNil)) (gN 3)) (sSeq (sSetIx (eV 3) (eV 1) (eV 2)) (sSeq (sDrop (eMt [(4, 107)] (eV 0) (lCons (eV 3) lNil))) sNext))
def d_House_given : FDef := ⟨3, 4, b_House_given⟩
abbrev F_House_give : Nat := 109
/-- slots: self 0, name 1, plain 2 -/
def b_House_give : TSt := sSeq (sIf (tNot (tVal (eFn 3 (lCons (eV 1) lNil)))) (sSeq (sRaise 7) sNext) sNext) (sSeq (sDrop (eMt [(4, 108)] (eV 0) (lCons (eV 1) (lCons (eFn 51 (lCons (eAt (eV 0) 17) (lCons (eV 2) lNil))) lNil)))) sNext)
def d_House_give : FDef := ⟨3, 3, b_House_give⟩
abbrev F_House_copy_of : Nat := 110
/-- slots: self 0, name 1, other 2 -/
def b_House_copy_of : TSt := sSeq (sDrop (eFn 200 (lCons (eC (.int 0)) lNil))) sNext
def d_House_copy_of : FDef := ⟨3, 3, b_House_copy_of⟩
abbrev F_House_join_to : Nat := 111
/-- slots: self 0, name 1, other 2 -/
def b_House_join_to : TSt := sSeq (sDrop (eMt [(4, 108)] (eV 0) (lCons (eV 1) (lCons (eFn 49 (lCons (eAt (eV 0) 17) (lCons (eMt [(4, 106)] (eV 0) (lCons (eV 1) lNil)) (lCons (eMt [(4, 106)] (eV 0) (lCons (eV 2) lNil)) lNil)))) lNil)))) sNext
def d_House_join_to : FDef := ⟨3, 3, b_House_join_to⟩
abbrev F_House_put_into : Nat := 112
/-- slots: self 0, name 1, at 2, other 3 -/
def b_House_put_into : TSt := sSeq (sDrop (eMt [(4, 108)] (eV 0) (lCons (eV 1) (lCons (eFn 57 (lCons (eAt (eV 0) 17) (lCons (eMt [(4, 106)] (eV 0) (lCons (eV 1) lNil)) (lCons (eV 2) (lCons (eMt [(4, 106)] (eV 0) (lCons (eV 3) lNil)) lNil))))) lNil)))) sNext
def d_House_put_into : FDef := ⟨4, 4, b_House_put_into⟩
abbrev F_House_take_from : Nat := 113
/-- slots: self 0, name 1, begin 2, end 3 -/
def b_House_take_from : TSt := sSeq (sDrop (eMt [(4, 108)] (eV 0) (lCons (eV 1) (lCons (eFn 58 (lCons (eAt (eV 0) 17) (lCons (eMt [(4, 106)] (eV 0) (lCons (eV 1) lNil)) (lCons (eV 2) (lCons (eV 3) lNil))))) lNil)))) sNext
def d_House_take_from : FDef := ⟨4, 4, b_House_take_from⟩
abbrev F_House_repeat : Nat := 114
/-- slots: self 0, name 1, many 2 -/
def b_House_repeat : TSt := sSeq (sDrop (eMt [(4, 108)] (eV 0) (lCons (eV 1) (lCons (eFn 52 (lCons (eAt (eV 0) 17) (lCons (eMt [(4, 106)] (eV 0) (lCons (eV 1) lNil)) (lCons (eV 2) lNil)))) lNil)))) sNext
def d_House_repeat : FDef := ⟨3, 3, b_House_repeat⟩
abbrev F_House_drop : Nat := 115
/-- slots: self 0, name 1 -/
def b_House_drop : TSt := sSeq (sDrop (eFn 200 (lCons (eC (.int 1)) lNil))) sNext
def d_House_drop : FDef := ⟨2, 2, b_House_drop⟩
abbrev F_House_back : Nat := 116
/-- slots: self 0 -/
def b_House_back : TSt := sSeq (sIf (tBl (eCmp .Eq (eAt (eV 0) 18) (eLst lNil))) (sSeq (sRaise 8) sNext) sNext) (sSeq (sDrop (eBm .append (eAt (eV 0) 19) (lCons (eAt (eV 0) 15) lNil))) (sSeq (sSetAt (eV 0) 15 (eBm .pop (eAt (eV 0) 18) lNil)) sNext))
def d_House_back : FDef := ⟨1, 1, b_House_back⟩
abbrev F_House_again : Nat := 117
/-- slots: self 0 -/
def b_House_again : TSt := sSeq (sIf (tBl (eCmp .Eq (eAt (eV 0) 19) (eLst lNil))) (sSeq (sRaise 8) sNext) sNext) (sSeq (sDrop (eBm .append (eAt (eV 0) 18) (lCons (eAt (eV 0) 15) lNil))) (sSeq (sSetAt (eV 0) 15 (eBm .pop (eAt (eV 0) 19) lNil)) sNext))
def d_House_again : FDef := ⟨1, 1, b_House_again⟩
abbrev F_gathered : Nat := 29
/-- slots: shelf 0, text 1, begin 2, end 3, word 4, one 5, other 6, ahead 7 -/
def b_gathered : TSt := sSeq (sAsg (eBi .max (lCons (eV 2) (lCons (eC (.int 0)) lNil))) (gN 2)) (sSeq (sAsg (eBi .min (lCons (eV 3) (lCons (eMt [(0, 14)] (eV 0) (lCons (eV 1) lNil)) lNil))) (gN 3)) (sSeq (sIf (tBl (eCmp .GtE (eV 2) (eV 3))) (sSeq (sRet (eC (.str ""))) sNext) sNext) (sSeq (sIf (tBl (eCmp .Eq (eMt [(0, 17)] (eV 0) (lCons (eV 1) lNil)) (eC (.int 0)))) (sSeq (sRet (eSl (eIx (eMt [(0, 13)] (eV 0) (lCons (eV 1) lNil)) (eC (.int 1))) (oSome (eV 2)) (oSome (eV 3)))) sNext) sNext) (sSeq (sAsg (eMt [(0, 13)] (eV 0) (lCons (eV 1) lNil)) (gTp [4, 5, 6])) (sSeq (sAsg (eMt [(0, 14)] (eV 0) (lCons (eV 5) lNil)) (gN 7)) (sSeq (sRet (eBin .Add (eFn 29 (lCons (eV 0) (lCons (eV 5) (lCons (eV 2) (lCons (eV 3) lNil))))) (eFn 29 (lCons (eV 0) (lCons (eV 6) (lCons (eBin .Sub (eV 2) (eV 7)) (lCons (eBin .Sub (eV 3) (eV 7)) lNil))))))) sNext))))))
def d_gathered : FDef := ⟨4, 8, b_gathered⟩
abbrev F_stretch_of : Nat := 30
/-- slots: shelf 0, text 1, begin 2, end 3, signs 4 -/
def b_stretch_of : TSt := sSeq (sAsg (eMt [(0, 14)] (eV 0) (lCons (eV 1) lNil)) (gN 4)) (sSeq (sIf (tNot (tBl (eChn (eC (.int 0)) [(.LtE, eV 2), (.LtE, eV 3), (.LtE, eV 4)]))) (sSeq (sRaise 6) sNext) sNext) (sSeq (sIf (tBl (eCmp .Gt (eBin .Sub (eV 3) (eV 2)) (eC (.int 10000)))) (sSeq (sRaise 5) sNext) sNext) (sSeq (sRet (eFn 29 (lCons (eV 0) (lCons (eV 1) (lCons (eV 2) (lCons (eV 3) lNil)))))) sNext)))
def d_stretch_of : FDef := ⟨4, 5, b_stretch_of⟩
abbrev F_is_whole : Nat := 1
/-- slots: thing 0 -/
def b_is_whole : TSt := sSeq (sRet (eAnd (eBi .isint (lCons (eV 0) lNil)) (eNot (eBi .isbool (lCons (eV 0) lNil))))) sNext
def d_is_whole : FDef := ⟨1, 1, b_is_whole⟩
abbrev F_look_at_word : Nat := 91
/-- slots: word 0 -/
def b_look_at_word : TSt := sSeq (sIf (tOr (tNot (tVal (eFn 2 (lCons (eV 0) lNil)))) (tNot (tBl (eChn (eC (.int 1)) [(.LtE, eBi .len (lCons (eV 0) lNil)), (.LtE, eC (.int 8))])))) (sSeq (sRaise 1) sNext) sNext) sNext
def d_look_at_word : FDef := ⟨1, 1, b_look_at_word⟩
abbrev F_places_in : Nat := 92
/-- slots: plain 0, word 1, place 2 -/
def b_places_in : TSt := sSeq (sRet (eLc (iRng1 (eBi .len (lCons (eV 0) lNil))) (gN 2) (tBl (eCmp .Eq (eSl (eV 0) (oSome (eV 2)) (oSome (eBin .Add (eV 2) (eBi .len (lCons (eV 1) lNil))))) (eV 1))) (eV 2) [2])) sNext
def d_places_in : FDef := ⟨2, 3, b_places_in⟩
abbrev F_Finder___init__ : Nat := 93
/-- slots: self 0, shelf 1, word 2 -/
def b_Finder___init__ : TSt := sSeq (sSetAt (eV 0) 11 (eV 1)) (sSeq (sSetAt (eV 0) 14 (eV 2)) (sSeq (sSetAt (eV 0) 15 (eDisp [(eC (.int 0), eC (.int 0))])) (sSeq (sSetAt (eV 0) 16 eDict0) sNext)))
def d_Finder___init__ : FDef := ⟨3, 3, b_Finder___init__⟩
abbrev F_Finder_ends_of : Nat := 94
/-- slots: self 0, text 1, reach 2, piece 3, head 4, tail 5 -/
def b_Finder_ends_of : TSt := sSeq (sIf (tBl (eCmp .NotIn (eV 1) (eAt (eV 0) 16))) (sSeq (sAsg (eBin .Sub (eBi .len (lCons (eAt (eV 0) 14) lNil)) (eC (.int 1))) (gN 2)) (sSeq (sAsg (eMt [(0, 13)] (eAt (eV 0) 11) (lCons (eV 1) lNil)) (gN 3)) (sSeq (sIf (tBl (eCmp .Eq (eIx (eV 3) (eC (.int 0))) (eC (.str "leaf")))) (sSeq (sAsg (eIx (eV 3) (eC (.int 1))) (gN 4)) (sSeq (sAsg (eIx (eV 3) (eC (.int 1))) (gN 5)) sNext)) (sSeq (sAsg (eBin .Add (eIx (eMt [(3, 94)] (eV 0) (lCons (eIx (eV 3) (eC (.int 1))) lNil)) (eC (.int 0))) (eIx (eMt [(3, 94)] (eV 0) (lCons (eIx (eV 3) (eC (.int 2))) lNil)) (eC (.int 0)))) (gN 4)) (sSeq (sAsg (eBin .Add (eIx (eMt [(3, 94)] (eV 0) (lCons (eIx (eV 3) (eC (.int 1))) lNil)) (eC (.int 1))) (eIx (eMt [(3, 94)] (eV 0) (lCons (eIx (eV 3) (eC (.int 2))) lNil)) (eC (.int 1)))) (gN 5)) sNext))) (sSeq (sSetIx (eAt (eV 0) 16) (eV 1) (eTup (lCons (eSl (eV 4) oNone (oSome (eV 2))) (lCons (eSl (eV 5) (oSome (eBi .max (lCons (eC (.int 0)) (lCons (eBin .Sub (eBi .len (lCons (eV 5) lNil)) (eV 2)) lNil)))) oNone) lNil)))) sNext)))) sNext) (sSeq (sRet (eIx (eAt (eV 0) 16) (eV 1))) sNext)
def d_Finder_ends_of : FDef := ⟨2, 6, b_Finder_ends_of⟩
abbrev F_Finder_seam : Nat := 95
/-- slots: self 0, one 1, other 2, tail 3, begin 4 -/
def b_Finder_seam : TSt := sSeq (sAsg (eIx (eMt [(3, 94)] (eV 0) (lCons (eV 1) lNil)) (eC (.int 1))) (gN 3)) (sSeq (sAsg (eBin .Sub (eMt [(0, 14)] (eAt (eV 0) 11) (lCons (eV 1) lNil)) (eBi .len (lCons (eV 3) lNil))) (gN 4)) (sSeq (sRet (eTup (lCons (eV 4) (lCons (eFn 92 (lCons (eBin .Add (eV 3) (eIx (eMt [(3, 94)] (eV 0) (lCons (eV 2) lNil)) (eC (.int 0)))) (lCons (eAt (eV 0) 14) lNil))) lNil)))) sNext))
def d_Finder_seam : FDef := ⟨3, 5, b_Finder_seam⟩
abbrev F_Finder_often : Nat := 96
/-- slots: self 0, text 1, piece 2, across 3 -/
def b_Finder_often : TSt := sSeq (sIf (tBl (eCmp .NotIn (eV 1) (eAt (eV 0) 15))) (sSeq (sAsg (eMt [(0, 13)] (eAt (eV 0) 11) (lCons (eV 1) lNil)) (gN 2)) (sSeq (sIf (tBl (eCmp .Eq (eIx (eV 2) (eC (.int 0))) (eC (.str "leaf")))) (sSeq (sSetIx (eAt (eV 0) 15) (eV 1) (eBi .len (lCons (eFn 92 (lCons (eIx (eV 2) (eC (.int 1))) (lCons (eAt (eV 0) 14) lNil))) lNil))) sNext) (sSeq (sAsg (eBi .len (lCons (eIx (eMt [(3, 95)] (eV 0) (lCons (eIx (eV 2) (eC (.int 1))) (lCons (eIx (eV 2) (eC (.int 2))) lNil))) (eC (.int 1))) lNil)) (gN 3)) (sSeq (sSetIx (eAt (eV 0) 15) (eV 1) (eBin .Add (eBin .Add (eMt [(3, 96)] (eV 0) (lCons (eIx (eV 2) (eC (.int 1))) lNil)) (eV 3)) (eMt [(3, 96)] (eV 0) (lCons (eIx (eV 2) (eC (.int 2))) lNil)))) sNext))) sNext)) sNext) (sSeq (sRet (eIx (eAt (eV 0) 15) (eV 1))) sNext)
def d_Finder_often : FDef := ⟨2, 4, b_Finder_often⟩
abbrev F_Finder_place : Nat := 97
/-- slots: self 0, text 1, k 2, ahead 3, piece 4, many 5, begin 6, across 7 -/
def b_Finder_place : TSt := sSeq (sAsg (eC (.int 0)) (gN 3)) (sSeq (sAsg (eMt [(0, 13)] (eAt (eV 0) 11) (lCons (eV 1) lNil)) (gN 4)) (sSeq (sWhile (tBl (eCmp .Eq (eIx (eV 4) (eC (.int 0))) (eC (.str "fork")))) (sSeq (sAsg (eMt [(3, 96)] (eV 0) (lCons (eIx (eV 4) (eC (.int 1))) lNil)) (gN 5)) (sSeq (sAsg (eMt [(3, 95)] (eV 0) (lCons (eIx (eV 4) (eC (.int 1))) (lCons (eIx (eV 4) (eC (.int 2))) lNil))) (gTp [6, 7])) (sSeq (sIf (tBl (eCmp .Lt (eV 2) (eV 5))) (sSeq (sAsg (eMt [(0, 13)] (eAt (eV 0) 11) (lCons (eIx (eV 4) (eC (.int 1))) lNil)) (gN 4)) sNext) (sSeq (sIf (tBl (eCmp .Lt (eV 2) (eBin .Add (eV 5) (eBi .len (lCons (eV 7) lNil))))) (sSeq (sRet (eBin .Add (eBin .Add (eV 3) (eV 6)) (eIx (eV 7) (eBin .Sub (eV 2) (eV 5))))) sNext) (sSeq (sAsg (eBin .Sub (eBin .Sub (eV 2) (eV 5)) (eBi .len (lCons (eV 7) lNil))) (gN 2)) (sSeq (sAsg (eBin .Add (eV 3) (eMt [(0, 14)] (eAt (eV 0) 11) (lCons (eIx (eV 4) (eC (.int 1))) lNil))) (gN 3)) (sSeq (sAsg (eMt [(0, 13)] (eAt (eV 0) 11) (lCons (eIx (eV 4) (eC (.int 2))) lNil)) (gN 4)) sNext)))) sNext)) sNext)))) (sSeq (sRet (eBin .Add (eV 3) (eIx (eFn 92 (lCons (eIx (eV 4) (eC (.int 1))) (lCons (eAt (eV 0) 14) lNil))) (eV 2)))) sNext)))
def d_Finder_place : FDef := ⟨3, 8, b_Finder_place⟩
abbrev F_count_of : Nat := 98
/-- slots: shelf 0, text 1, word 2 -/
def b_count_of : TSt := sSeq (sDrop (eMt [(0, 14)] (eV 0) (lCons (eV 1) lNil))) (sSeq (sDrop (eFn 91 (lCons (eV 2) lNil))) (sSeq (sRet (eMt [(3, 96)] (eMk 3 93 (lCons (eV 0) (lCons (eV 2) lNil))) (lCons (eV 1) lNil))) sNext))
def d_count_of : FDef := ⟨3, 3, b_count_of⟩
abbrev F_items_signs : Nat := 72
/-- slots: shelf 0, items 1, total 2, item 3 -/
def b_items_signs : TSt := sSeq (sAsg (eC (.int 0)) (gN 2)) (sSeq (sFor (iVal (eV 1)) (gN 3) (sSeq (sIf (tVal (eFn 1 (lCons (eV 3) lNil))) (sSeq (sIf (tBl (eCmp .Eq (eV 3) (eC (.int 0)))) (sSeq (sRaise 2) sNext) sNext) (sSeq (sAsg (eBin .Add (eV 2) (eMt [(0, 14)] (eV 0) (lCons (eV 3) lNil))) (gN 2)) sNext)) (sSeq (sAsg (eBin .Add (eV 2) (eBi .len (lCons (eV 3) lNil))) (gN 2)) sNext)) sNext)) (sSeq (sRet (eV 2)) sNext))
def d_items_signs : FDef := ⟨2, 4, b_items_signs⟩
abbrev F_Reader___init__ : Nat := 78
/-- slots: self 0, shelf 1, text 2 -/
def b_Reader___init__ : TSt := sSeq (sSetAt (eV 0) 11 (eV 1)) (sSeq (sSetAt (eV 0) 12 (eC (.str ""))) (sSeq (sSetAt (eV 0) 13 (eLst lNil)) (sSeq (sIf (tBl (eCmp .NotEq (eV 2) (eC (.int 0)))) (sSeq (sDrop (eBm .append (eAt (eV 0) 13) (lCons (eV 2) lNil))) sNext) sNext) sNext)))
def d_Reader___init__ : FDef := ⟨3, 3, b_Reader___init__⟩
abbrev F_Reader_is_over : Nat := 79
/-- slots: self 0 -/
def b_Reader_is_over : TSt := sSeq (sRet (eAnd (eCmp .Eq (eAt (eV 0) 12) (eC (.str ""))) (eCmp .Eq (eAt (eV 0) 13) (eLst lNil)))) sNext
def d_Reader_is_over : FDef := ⟨1, 1, b_Reader_is_over⟩
abbrev F_Reader_next_piece : Nat := 80
/-- slots: self 0 -/
def b_Reader_next_piece : TSt := sSeq (sIf (tOr (tBl (eCmp .NotEq (eAt (eV 0) 12) (eC (.str "")))) (tBl (eCmp .Eq (eAt (eV 0) 13) (eLst lNil)))) (sSeq (sRet (eC (.int 0))) sNext) sNext) (sSeq (sRet (eIx (eAt (eV 0) 13) (eNeg (eC (.int 1))))) sNext)
def d_Reader_next_piece : FDef := ⟨1, 1, b_Reader_next_piece⟩
abbrev F_Reader_passed : Nat := 81
/-- slots: self 0 -/
def b_Reader_passed : TSt := sSeq (sDrop (eBm .pop (eAt (eV 0) 13) lNil)) sNext
def d_Reader_passed : FDef := ⟨1, 1, b_Reader_passed⟩
abbrev F_Reader_opened : Nat := 82
/-- slots: self 0, piece 1 -/
def b_Reader_opened : TSt := sSeq (sAsg (eMt [(0, 13)] (eAt (eV 0) 11) (lCons (eBm .pop (eAt (eV 0) 13) lNil) lNil)) (gN 1)) (sSeq (sIf (tBl (eCmp .Eq (eIx (eV 1) (eC (.int 0))) (eC (.str "leaf")))) (sSeq (sSetAt (eV 0) 12 (eIx (eV 1) (eC (.int 1)))) sNext) (sSeq (sDrop (eBm .extend (eAt (eV 0) 13) (lCons (eLst (lCons (eIx (eV 1) (eC (.int 2))) (lCons (eIx (eV 1) (eC (.int 1))) lNil))) lNil))) sNext)) sNext)
def d_Reader_opened : FDef := ⟨1, 2, b_Reader_opened⟩
abbrev F_Reader_next_sign : Nat := 83
/-- slots: self 0 -/
def b_Reader_next_sign : TSt := sSeq (sWhile (tAnd (tBl (eCmp .Eq (eAt (eV 0) 12) (eC (.str "")))) (tBl (eCmp .NotEq (eAt (eV 0) 13) (eLst lNil)))) (sSeq (sDrop (eMt [(1, 63), (2, 82)] (eV 0) lNil)) sNext)) (sSeq (sRet (eSl (eAt (eV 0) 12) oNone (oSome (eC (.int 1))))) sNext)
def d_Reader_next_sign : FDef := ⟨1, 1, b_Reader_next_sign⟩
abbrev F_Reader_gone : Nat := 84
/-- slots: self 0, many 1 -/
def b_Reader_gone : TSt := sSeq (sSetAt (eV 0) 12 (eSl (eAt (eV 0) 12) (oSome (eV 1)) oNone)) sNext
def d_Reader_gone : FDef := ⟨2, 2, b_Reader_gone⟩
abbrev F_in_common : Nat := 85
/-- slots: one 0, other 1, many 2 -/
def b_in_common : TSt := sSeq (sAsg (eC (.int 0)) (gN 2)) (sSeq (sWhile (tAnd (tBl (eCmp .Lt (eV 2) (eBi .len (lCons (eV 0) lNil)))) (tAnd (tBl (eCmp .Lt (eV 2) (eBi .len (lCons (eV 1) lNil)))) (tBl (eCmp .Eq (eIx (eV 0) (eV 2)) (eIx (eV 1) (eV 2)))))) (sSeq (sAsg (eBin .Add (eV 2) (eC (.int 1))) (gN 2)) sNext)) (sSeq (sRet (eV 2)) sNext))
def d_in_common : FDef := ⟨2, 3, b_in_common⟩
abbrev F_opened_one : Nat := 86
/-- slots: shelf 0, one 1, other 2, here 3, there 4 -/
def b_opened_one : TSt := sSeq (sAsg (eMt [(2, 80)] (eV 1) lNil) (gN 3)) (sSeq (sAsg (eMt [(2, 80)] (eV 2) lNil) (gN 4)) (sSeq (sIf (tAnd (tBl (eCmp .Eq (eV 3) (eC (.int 0)))) (tBl (eCmp .Eq (eV 4) (eC (.int 0))))) (sSeq (sRet (eC (.bl false))) sNext) sNext) (sSeq (sIf (tOr (tBl (eCmp .Eq (eV 4) (eC (.int 0)))) (tAnd (tBl (eCmp .NotEq (eV 3) (eC (.int 0)))) (tBl (eCmp .GtE (eMt [(0, 14)] (eV 0) (lCons (eV 3) lNil)) (eMt [(0, 14)] (eV 0) (lCons (eV 4) lNil)))))) (sSeq (sDrop (eMt [(1, 63), (2, 82)] (eV 1) lNil)) sNext) (sSeq (sDrop (eMt [(1, 63), (2, 82)] (eV 2) lNil)) sNext)) (sSeq (sRet (eC (.bl true))) sNext))))
def d_opened_one : FDef := ⟨3, 5, b_opened_one⟩
abbrev F_with_signs : Nat := 87
/-- slots: items 0, plain 1, found 2 -/
def b_with_signs : TSt := sSeq (sAsg (eBi .list (lCons (eV 0) lNil)) (gN 2)) (sSeq (sIf (tAnd (tBl (eCmp .NotEq (eV 2) (eLst lNil))) (tAnd (tVal (eBi .isstr (lCons (eIx (eV 2) (eNeg (eC (.int 1)))) lNil))) (tBl (eCmp .LtE (eBin .Add (eBi .len (lCons (eIx (eV 2) (eNeg (eC (.int 1)))) lNil)) (eBi .len (lCons (eV 1) lNil))) (eC (.int 8)))))) (sSeq (sSetIx (eV 2) (eNeg (eC (.int 1))) (eBin .Add (eIx (eV 2) (eNeg (eC (.int 1)))) (eV 1))) sNext) (sSeq (sDrop (eBm .append (eV 2) (lCons (eV 1) lNil))) sNext)) (sSeq (sRet (eV 2)) sNext))
def d_with_signs : FDef := ⟨2, 3, b_with_signs⟩
abbrev F_held_together : Nat := 88
/-- slots: shelf 0, one 1, other 2, signs 3, here 4, there 5, items 6, many 7 -/
def b_held_together : TSt := sSeq (sAsg (eLst (lCons (eMt [(0, 14)] (eV 0) (lCons (eV 1) lNil)) (lCons (eMt [(0, 14)] (eV 0) (lCons (eV 2) lNil)) lNil))) (gN 3)) (sSeq (sIf (tAnd (tBl (eCmp .NotEq (eV 1) (eV 2))) (tBl (eCmp .Gt (eBi .max (lCons (eV 3) lNil)) (eC (.int 10000))))) (sSeq (sRaise 5) sNext) sNext) (sSeq (sAsg (eMk 2 78 (lCons (eV 0) (lCons (eV 1) lNil))) (gN 4)) (sSeq (sAsg (eMk 2 78 (lCons (eV 0) (lCons (eV 2) lNil))) (gN 5)) (sSeq (sAsg (eLst lNil) (gN 6)) (sSeq (sWhile (tAnd (tNot (tVal (eMt [(1, 61), (2, 79)] (eV 4) lNil))) (tNot (tVal (eMt [(1, 61), (2, 79)] (eV 5) lNil)))) (sSeq (sIf (tAnd (tBl (eCmp .NotEq (eMt [(2, 80)] (eV 4) lNil) (eC (.int 0)))) (tBl (eCmp .Eq (eMt [(2, 80)] (eV 4) lNil) (eMt [(2, 80)] (eV 5) lNil)))) (sSeq (sDrop (eBm .append (eV 6) (lCons (eMt [(2, 80)] (eV 4) lNil) lNil))) (sSeq (sDrop (eMt [(2, 81)] (eV 4) lNil)) (sSeq (sDrop (eMt [(2, 81)] (eV 5) lNil)) sNext))) (sSeq (sIf (tNot (tVal (eFn 86 (lCons (eV 0) (lCons (eV 4) (lCons (eV 5) lNil)))))) (sSeq (sAsg (eFn 85 (lCons (eAt (eV 4) 12) (lCons (eAt (eV 5) 12) lNil))) (gN 7)) (sSeq (sIf (tBl (eCmp .Eq (eV 7) (eC (.int 0)))) (sSeq sBrk sNext) sNext) (sSeq (sAsg (eFn 87 (lCons (eV 6) (lCons (eSl (eAt (eV 4) 12) oNone (oSome (eV 7))) lNil))) (gN 6)) (sSeq (sDrop (eMt [(2, 84)] (eV 4) (lCons (eV 7) lNil))) (sSeq (sDrop (eMt [(2, 84)] (eV 5) (lCons (eV 7) lNil))) sNext))))) sNext) sNext)) sNext)) (sSeq (sIf (tAnd (tVal (eMt [(1, 61), (2, 79)] (eV 4) lNil)) (tVal (eMt [(1, 61), (2, 79)] (eV 5) lNil))) (sSeq (sRet (eTup (lCons (eC (.str "alike")) (lCons (eV 6) lNil)))) sNext) sNext) (sSeq (sRet (eTup (lCons (eC (.str "apart")) (lCons (eV 6) (lCons (eMt [(2, 83)] (eV 4) lNil) (lCons (eMt [(2, 83)] (eV 5) lNil) lNil)))))) sNext)))))))
def d_held_together : FDef := ⟨3, 8, b_held_together⟩
abbrev F_rows_in : Nat := 32
/-- slots: shelf 0, text 1 -/
def b_rows_in : TSt := sSeq (sRet (eBin .Add (eMt [(0, 15)] (eV 0) (lCons (eV 1) lNil)) (eC (.int 1)))) sNext
def d_rows_in : FDef := ⟨2, 2, b_rows_in⟩
abbrev F_place_behind : Nat := 34
/-- slots: shelf 0, text 1, row 2, ahead 3, left 4, word 5, one 6, other 7, plain 8, places 9, place 10, sign 11 -/
def b_place_behind : TSt := sSeq (sAsg (eC (.int 0)) (gN 3)) (sSeq (sAsg (eV 2) (gN 4)) (sSeq (sWhile (tBl (eCmp .Gt (eMt [(0, 17)] (eV 0) (lCons (eV 1) lNil)) (eC (.int 0)))) (sSeq (sAsg (eMt [(0, 13)] (eV 0) (lCons (eV 1) lNil)) (gTp [5, 6, 7])) (sSeq (sIf (tBl (eCmp .LtE (eV 4) (eMt [(0, 15)] (eV 0) (lCons (eV 6) lNil)))) (sSeq (sAsg (eV 6) (gN 1)) sNext) (sSeq (sAsg (eBin .Sub (eV 4) (eMt [(0, 15)] (eV 0) (lCons (eV 6) lNil))) (gN 4)) (sSeq (sAsg (eBin .Add (eV 3) (eMt [(0, 14)] (eV 0) (lCons (eV 6) lNil))) (gN 3)) (sSeq (sAsg (eV 7) (gN 1)) sNext)))) sNext))) (sSeq (sAsg (eIx (eMt [(0, 13)] (eV 0) (lCons (eV 1) lNil)) (eC (.int 1))) (gN 8)) (sSeq (sAsg (eLc (iEnm (eV 8)) (gTp [10, 11]) (tBl (eCmp .Eq (eV 11) (eC (.str "\n")))) (eV 10) [10, 11]) (gN 9)) (sSeq (sRet (eBin .Add (eBin .Add (eV 3) (eIx (eV 9) (eBin .Sub (eV 4) (eC (.int 1))))) (eC (.int 1)))) sNext)))))
def d_place_behind : FDef := ⟨3, 12, b_place_behind⟩
abbrev F_row_begin : Nat := 35
/-- slots: shelf 0, text 1, row 2, many 3 -/
def b_row_begin : TSt := sSeq (sAsg (eFn 32 (lCons (eV 0) (lCons (eV 1) lNil))) (gN 3)) (sSeq (sIf (tNot (tBl (eChn (eC (.int 0)) [(.LtE, eV 2), (.Lt, eV 3)]))) (sSeq (sRaise 6) sNext) sNext) (sSeq (sIf (tBl (eCmp .Eq (eV 2) (eC (.int 0)))) (sSeq (sRet (eC (.int 0))) sNext) sNext) (sSeq (sRet (eFn 34 (lCons (eV 0) (lCons (eV 1) (lCons (eV 2) lNil))))) sNext)))
def d_row_begin : FDef := ⟨3, 4, b_row_begin⟩
abbrev F_row_end : Nat := 36
/-- slots: shelf 0, text 1, row 2 -/
def b_row_end : TSt := sSeq (sIf (tBl (eCmp .Eq (eBin .Add (eV 2) (eC (.int 1))) (eFn 32 (lCons (eV 0) (lCons (eV 1) lNil))))) (sSeq (sRet (eMt [(0, 14)] (eV 0) (lCons (eV 1) lNil))) sNext) sNext) (sSeq (sRet (eBin .Sub (eFn 34 (lCons (eV 0) (lCons (eV 1) (lCons (eBin .Add (eV 2) (eC (.int 1))) lNil)))) (eC (.int 1)))) sNext)
def d_row_end : FDef := ⟨3, 3, b_row_end⟩
abbrev F_row_text : Nat := 38
/-- slots: shelf 0, text 1, row 2, begin 3 -/
def b_row_text : TSt := sSeq (sAsg (eFn 35 (lCons (eV 0) (lCons (eV 1) (lCons (eV 2) lNil)))) (gN 3)) (sSeq (sRet (eFn 30 (lCons (eV 0) (lCons (eV 1) (lCons (eV 3) (lCons (eFn 36 (lCons (eV 0) (lCons (eV 1) (lCons (eV 2) lNil)))) lNil)))))) sNext)
def d_row_text : FDef := ⟨3, 4, b_row_text⟩
abbrev F_written : Nat := 118
/-- slots: plain 0 -/
def b_written : TSt := sSeq (sRet (eBm .replace (eBm .replace (eV 0) (lCons (eC (.str "\\")) (lCons (eC (.str "\\\\")) lNil))) (lCons (eC (.str "\n")) (lCons (eC (.str "\\n")) lNil)))) sNext
def d_written : FDef := ⟨1, 1, b_written⟩
abbrev F_read_written : Nat := 119
/-- slots: word 0, found 1, place 2, sign 3 -/
def b_read_written : TSt := sSeq (sIf (tOr (tNot (tVal (eFn 2 (lCons (eV 0) lNil)))) (tBl (eCmp .In (eC (.str "\n")) (eV 0)))) (sSeq (sRet (eC .non)) sNext) sNext) (sSeq (sAsg (eC (.str "")) (gN 1)) (sSeq (sAsg (eC (.int 0)) (gN 2)) (sSeq (sWhile (tBl (eCmp .Lt (eV 2) (eBi .len (lCons (eV 0) lNil)))) (sSeq (sAsg (eIx (eV 0) (eV 2)) (gN 3)) (sSeq (sIf (tBl (eCmp .Eq (eV 3) (eC (.str "\\")))) (sSeq (sAsg (eBin .Add (eV 2) (eC (.int 1))) (gN 2)) (sSeq (sAsg (eBm .get (eDisp [(eC (.str "n"), eC (.str "\n")), (eC (.str "\\"), eC (.str "\\"))]) (lCons (eSl (eV 0) (oSome (eV 2)) (oSome (eBin .Add (eV 2) (eC (.int 1))))) lNil)) (gN 3)) (sSeq (sIf (tBl (eCmp .Is (eV 3) (eC .non))) (sSeq (sRet (eC .non)) sNext) sNext) sNext))) sNext) (sSeq (sAsg (eBin .Add (eV 1) (eV 3)) (gN 1)) (sSeq (sAsg (eBin .Add (eV 2) (eC (.int 1))) (gN 2)) sNext))))) (sSeq (sRet (eV 1)) sNext))))
def d_read_written : FDef := ⟨1, 4, b_read_written⟩
abbrev F_number_in : Nat := 120
/-- slots: word 0, sign 1 -/
def b_number_in : TSt := sSeq (sIf (tOr (tNot (tBl (eChn (eC (.int 1)) [(.LtE, eBi .len (lCons (eV 0) lNil)), (.LtE, eC (.int 30))]))) (tNot (tVal (eBi .all (lCons (eLc (iVal (eV 0)) (gN 1) tYes (eCmp .In (eV 1) (eC (.str "0123456789"))) [1]) lNil))))) (sSeq (sRet (eC .non)) sNext) sNext) (sSeq (sIf (tAnd (tBl (eCmp .Eq (eIx (eV 0) (eC (.int 0))) (eC (.str "0")))) (tBl (eCmp .NotEq (eV 0) (eC (.str "0"))))) (sSeq (sRet (eC .non)) sNext) sNext) (sSeq (sRet (eBi .int (lCons (eV 0) lNil))) sNext))
def d_number_in : FDef := ⟨1, 2, b_number_in⟩
abbrev F_thing_in : Nat := 126
/-- slots: word 0, kind 1, found 2 -/
def b_thing_in : TSt := sSeq (sAsg (eC .non) (gN 2)) (sSeq (sIf (tAnd (tBl (eCmp .Eq (eV 1) (eC (.str "n")))) (tVal (eFn 3 (lCons (eV 0) lNil)))) (sSeq (sAsg (eV 0) (gN 2)) sNext) (sSeq (sIf (tBl (eCmp .Eq (eV 1) (eC (.str "w")))) (sSeq (sAsg (eFn 120 (lCons (eV 0) lNil)) (gN 2)) sNext) (sSeq (sIf (tBl (eCmp .Eq (eV 1) (eC (.str "t")))) (sSeq (sAsg (eFn 119 (lCons (eV 0) lNil)) (gN 2)) sNext) sNext) sNext)) sNext)) (sSeq (sIf (tBl (eCmp .Is (eV 2) (eC .non))) (sSeq (sRaise 10) sNext) sNext) (sSeq (sRet (eV 2)) sNext)))
def d_thing_in : FDef := ⟨2, 3, b_thing_in⟩
abbrev F_done_by : Nat := 128
/-- slots: house 0, first 1, things 2 -/
def b_done_by : TSt := sSeq (sIf (tBl (eCmp .Eq (eV 1) (eC (.str "new")))) (sSeq (sDrop (eMt [(4, 109)] (eV 0) (lCons (eIx (eV 2) (eC (.int 0))) (lCons (eIx (eV 2) (eC (.int 1))) lNil)))) sNext) (sSeq (sIf (tBl (eCmp .Eq (eV 1) (eC (.str "copy")))) (sSeq (sDrop (eMt [(4, 110)] (eV 0) (lCons (eIx (eV 2) (eC (.int 0))) (lCons (eIx (eV 2) (eC (.int 1))) lNil)))) sNext) (sSeq (sIf (tBl (eCmp .Eq (eV 1) (eC (.str "join")))) (sSeq (sDrop (eMt [(4, 111)] (eV 0) (lCons (eIx (eV 2) (eC (.int 0))) (lCons (eIx (eV 2) (eC (.int 1))) lNil)))) sNext) (sSeq (sIf (tBl (eCmp .Eq (eV 1) (eC (.str "put")))) (sSeq (sDrop (eMt [(4, 112)] (eV 0) (lCons (eIx (eV 2) (eC (.int 0))) (lCons (eIx (eV 2) (eC (.int 1))) (lCons (eIx (eV 2) (eC (.int 2))) lNil))))) sNext) (sSeq (sIf (tBl (eCmp .Eq (eV 1) (eC (.str "take")))) (sSeq (sDrop (eMt [(4, 113)] (eV 0) (lCons (eIx (eV 2) (eC (.int 0))) (lCons (eIx (eV 2) (eC (.int 1))) (lCons (eIx (eV 2) (eC (.int 2))) lNil))))) sNext) (sSeq (sIf (tBl (eCmp .Eq (eV 1) (eC (.str "drop")))) (sSeq (sDrop (eMt [(4, 115)] (eV 0) (lCons (eIx (eV 2) (eC (.int 0))) lNil))) sNext) (sSeq (sIf (tBl (eCmp .Eq (eV 1) (eC (.str "times")))) (sSeq (sDrop (eMt [(4, 114)] (eV 0) (lCons (eIx (eV 2) (eC (.int 0))) (lCons (eIx (eV 2) (eC (.int 1))) lNil)))) sNext) (sSeq (sIf (tBl (eCmp .Eq (eV 1) (eC (.str "back")))) (sSeq (sDrop (eMt [(4, 116)] (eV 0) lNil)) sNext) (sSeq (sDrop (eMt [(4, 117)] (eV 0) lNil)) sNext)) sNext)) sNext)) sNext)) sNext)) sNext)) sNext)) sNext)) (sSeq (sRet (eC (.str "ok"))) sNext)
def d_done_by : FDef := ⟨3, 3, b_done_by⟩
abbrev F_alike_answer : Nat := 129
/-- slots: house 0, one 1, other 2, told 3 -/
def b_alike_answer : TSt := sSeq (sAsg (eFn 88 (lCons (eMt [(4, 104)] (eV 0) lNil) (lCons (eMt [(4, 106)] (eV 0) (lCons (eV 1) lNil)) (lCons (eMt [(4, 106)] (eV 0) (lCons (eV 2) lNil)) lNil)))) (gN 3)) (sSeq (sIf (tBl (eCmp .Eq (eIx (eV 3) (eC (.int 0))) (eC (.str "alike")))) (sSeq (sRet (eC (.str "yes"))) sNext) sNext) (sSeq (sRet (eBin .Add (eC (.str "no ")) (eBi .str (lCons (eFn 72 (lCons (eMt [(4, 104)] (eV 0) lNil) (lCons (eIx (eV 3) (eC (.int 1))) lNil))) lNil)))) sNext))
def d_alike_answer : FDef := ⟨3, 4, b_alike_answer⟩
abbrev F_number_answer : Nat := 130
/-- slots: shelf 0, text 1, first 2 -/
def b_number_answer : TSt := sSeq (sIf (tBl (eCmp .Eq (eV 2) (eC (.str "signs")))) (sSeq (sRet (eBi .str (lCons (eMt [(0, 14)] (eV 0) (lCons (eV 1) lNil)) lNil))) sNext) sNext) (sSeq (sIf (tBl (eCmp .Eq (eV 2) (eC (.str "rows")))) (sSeq (sRet (eBi .str (lCons (eFn 32 (lCons (eV 0) (lCons (eV 1) lNil))) lNil))) sNext) sNext) (sSeq (sRet (eBi .str (lCons (eMt [(0, 17)] (eV 0) (lCons (eV 1) lNil)) lNil))) sNext))
def d_number_answer : FDef := ⟨3, 3, b_number_answer⟩
abbrev F_answer_by : Nat := 131
/-- slots: house 0, first 1, things 2, shelf 3, text 4 -/
def b_answer_by : TSt := sSeq (sIf (tBl (eCmp .Eq (eV 1) (eC (.str "names")))) (sSeq (sRet (eOr (eBm .join (eC (.str " ")) (lCons (eMt [(4, 105)] (eV 0) lNil) lNil)) (eC (.str "-")))) sNext) sNext) (sSeq (sIf (tBl (eCmp .Eq (eV 1) (eC (.str "pieces")))) (sSeq (sRet (eBi .str (lCons (eMt [(0, 12)] (eMt [(4, 104)] (eV 0) lNil) lNil) lNil))) sNext) sNext) (sSeq (sIf (tBl (eCmp .Eq (eV 1) (eC (.str "alike")))) (sSeq (sRet (eFn 129 (lCons (eV 0) (lCons (eIx (eV 2) (eC (.int 0))) (lCons (eIx (eV 2) (eC (.int 1))) lNil))))) sNext) sNext) (sSeq (sAsg (eMt [(4, 104)] (eV 0) lNil) (gN 3)) (sSeq (sAsg (eMt [(4, 106)] (eV 0) (lCons (eIx (eV 2) (eC (.int 0))) lNil)) (gN 4)) (sSeq (sIf (tBl (eCmp .Eq (eV 1) (eC (.str "read")))) (sSeq (sRet (eFn 118 (lCons (eFn 30 (lCons (eV 3) (lCons (eV 4) (lCons (eIx (eV 2) (eC (.int 1))) (lCons (eIx (eV 2) (eC (.int 2))) lNil))))) lNil))) sNext) sNext) (sSeq (sIf (tBl (eCmp .Eq (eV 1) (eC (.str "row")))) (sSeq (sRet (eFn 118 (lCons (eFn 38 (lCons (eV 3) (lCons (eV 4) (lCons (eIx (eV 2) (eC (.int 1))) lNil)))) lNil))) sNext) sNext) (sSeq (sIf (tBl (eCmp .Eq (eV 1) (eC (.str "count")))) (sSeq (sRet (eBi .str (lCons (eFn 98 (lCons (eV 3) (lCons (eV 4) (lCons (eIx (eV 2) (eC (.int 1))) lNil)))) lNil))) sNext) sNext) (sSeq (sRet (eFn 130 (lCons (eV 3) (lCons (eV 4) (lCons (eV 1) lNil))))) sNext))))))))
def d_answer_by : FDef := ⟨3, 5, b_answer_by⟩
abbrev F_Desk___init__ : Nat := 132
/-- slots: self 0 -/
def b_Desk___init__ : TSt := sSeq (sSetAt (eV 0) 20 (eMk 4 103 lNil)) sNext
def d_Desk___init__ : FDef := ⟨1, 1, b_Desk___init__⟩
abbrev F_cut_at : Nat := 56
/-- slots: shelf 0, text 1, at 2 -/
def b_cut_at : TSt := sSeq (sDrop (eFn 53 (lCons (eV 0) (lCons (eV 1) (lCons (eV 2) (lCons (eMt [(0, 14)] (eV 0) (lCons (eV 1) lNil)) lNil)))))) (sSeq (sRet (eFn 55 (lCons (eV 0) (lCons (eV 1) (lCons (eV 2) lNil))))) sNext)
def d_cut_at : FDef := ⟨3, 3, b_cut_at⟩
abbrev F_kept_part : Nat := 59
/-- slots: shelf 0, text 1, begin 2, end 3, left 4 -/
def b_kept_part : TSt := sSeq (sDrop (eFn 53 (lCons (eV 0) (lCons (eV 1) (lCons (eV 2) (lCons (eV 3) lNil)))))) (sSeq (sAsg (eIx (eFn 55 (lCons (eV 0) (lCons (eV 1) (lCons (eV 3) lNil)))) (eC (.int 0))) (gN 4)) (sSeq (sRet (eIx (eFn 55 (lCons (eV 0) (lCons (eV 4) (lCons (eV 2) lNil)))) (eC (.int 1)))) sNext))
def d_kept_part : FDef := ⟨4, 5, b_kept_part⟩
abbrev F_Front___init__ : Nat := 60
/-- slots: self 0, shelf 1, text 2 -/
def b_Front___init__ : TSt := sSeq (sSetAt (eV 0) 8 (eV 1)) (sSeq (sSetAt (eV 0) 9 (eC (.str ""))) (sSeq (sSetAt (eV 0) 10 (eLst lNil)) (sSeq (sIf (tBl (eCmp .NotEq (eV 2) (eC (.int 0)))) (sSeq (sDrop (eBm .append (eAt (eV 0) 10) (lCons (eV 2) lNil))) sNext) sNext) sNext)))
def d_Front___init__ : FDef := ⟨3, 3, b_Front___init__⟩
abbrev F_Front_is_over : Nat := 61
/-- slots: self 0 -/
def b_Front_is_over : TSt := sSeq (sRet (eAnd (eCmp .Eq (eAt (eV 0) 9) (eC (.str ""))) (eCmp .Eq (eAt (eV 0) 10) (eLst lNil)))) sNext
def d_Front_is_over : FDef := ⟨1, 1, b_Front_is_over⟩
abbrev F_Front_next_text : Nat := 62
/-- slots: self 0 -/
def b_Front_next_text : TSt := sSeq (sIf (tOr (tBl (eCmp .NotEq (eAt (eV 0) 9) (eC (.str "")))) (tBl (eCmp .Eq (eAt (eV 0) 10) (eLst lNil)))) (sSeq (sRet (eC (.int 0))) sNext) sNext) (sSeq (sRet (eIx (eAt (eV 0) 10) (eNeg (eC (.int 1))))) sNext)
def d_Front_next_text : FDef := ⟨1, 1, b_Front_next_text⟩
abbrev F_Front_opened : Nat := 63
/-- slots: self 0, text 1, one 2, other 3 -/
def b_Front_opened : TSt := sSeq (sAsg (eBm .pop (eAt (eV 0) 10) lNil) (gN 1)) (sSeq (sIf (tVal (eFn 39 (lCons (eAt (eV 0) 8) (lCons (eV 1) lNil)))) (sSeq (sSetAt (eV 0) 9 (eFn 47 (lCons (eAt (eV 0) 8) (lCons (eV 1) lNil)))) sNext) (sSeq (sAsg (eFn 40 (lCons (eAt (eV 0) 8) (lCons (eV 1) lNil))) (gTp [2, 3])) (sSeq (sDrop (eBm .append (eAt (eV 0) 10) (lCons (eV 3) lNil))) (sSeq (sDrop (eBm .append (eAt (eV 0) 10) (lCons (eV 2) lNil))) sNext)))) sNext)
def d_Front_opened : FDef := ⟨1, 4, b_Front_opened⟩
abbrev F_Front_next_signs : Nat := 64
/-- slots: self 0 -/
def b_Front_next_signs : TSt := sSeq (sWhile (tAnd (tBl (eCmp .Eq (eAt (eV 0) 9) (eC (.str "")))) (tBl (eCmp .NotEq (eAt (eV 0) 10) (eLst lNil)))) (sSeq (sDrop (eMt [(1, 63), (2, 82)] (eV 0) lNil)) sNext)) (sSeq (sRet (eAt (eV 0) 9)) sNext)
def d_Front_next_signs : FDef := ⟨1, 1, b_Front_next_signs⟩
abbrev F_Front_go_on : Nat := 65
/-- slots: self 0, many 1 -/
def b_Front_go_on : TSt := sSeq (sSetAt (eV 0) 9 (eSl (eAt (eV 0) 9) (oSome (eV 1)) oNone)) sNext
def d_Front_go_on : FDef := ⟨2, 2, b_Front_go_on⟩
abbrev F_Front_by_piece : Nat := 66
/-- slots: self 0, number 1, signs 2 -/
def b_Front_by_piece : TSt := sSeq (sIf (tNot (tBl (eChn (eC (.int 0)) [(.Lt, eV 1), (.LtE, eMt [(0, 12)] (eAt (eV 0) 8) lNil)]))) (sSeq (sRet (eC (.bl false))) sNext) sNext) (sSeq (sAsg (eMt [(0, 14)] (eAt (eV 0) 8) (lCons (eV 1) lNil)) (gN 2)) (sSeq (sWhile (tAnd (tBl (eCmp .NotEq (eMt [(1, 62)] (eV 0) lNil) (eC (.int 0)))) (tBl (eCmp .NotEq (eMt [(1, 62)] (eV 0) lNil) (eV 1)))) (sSeq (sIf (tBl (eCmp .LtE (eMt [(0, 14)] (eAt (eV 0) 8) (lCons (eMt [(1, 62)] (eV 0) lNil) lNil)) (eV 2))) (sSeq (sRet (eC (.bl false))) sNext) sNext) (sSeq (sDrop (eMt [(1, 63), (2, 82)] (eV 0) lNil)) sNext))) (sSeq (sIf (tBl (eCmp .Eq (eMt [(1, 62)] (eV 0) lNil) (eC (.int 0)))) (sSeq (sRet (eC (.bl false))) sNext) sNext) (sSeq (sDrop (eBm .pop (eAt (eV 0) 10) lNil)) (sSeq (sRet (eC (.bl true))) sNext)))))
def d_Front_by_piece : FDef := ⟨2, 3, b_Front_by_piece⟩
abbrev F_Front_by_signs : Nat := 67
/-- slots: self 0, plain 1, sign 2 -/
def b_Front_by_signs : TSt := sSeq (sFor (iVal (eV 1)) (gN 2) (sSeq (sIf (tBl (eCmp .NotEq (eSl (eMt [(1, 64)] (eV 0) lNil) oNone (oSome (eC (.int 1)))) (eV 2))) (sSeq (sRet (eC (.bl false))) sNext) sNext) (sSeq (sDrop (eMt [(1, 65)] (eV 0) (lCons (eC (.int 1)) lNil))) sNext))) (sSeq (sRet (eC (.bl true))) sNext)
def d_Front_by_signs : FDef := ⟨2, 3, b_Front_by_signs⟩
abbrev F_is_plain_item : Nat := 68
/-- slots: item 0 -/
def b_is_plain_item : TSt := sSeq (sRet (eAnd (eFn 2 (lCons (eV 0) lNil)) (eChn (eC (.int 1)) [(.LtE, eBi .len (lCons (eV 0) lNil)), (.LtE, eC (.int 8))]))) sNext
def d_is_plain_item : FDef := ⟨1, 1, b_is_plain_item⟩
abbrev F_spell_on : Nat := 69
/-- slots: front 0, items 1, item 2 -/
def b_spell_on : TSt := sSeq (sFor (iVal (eV 1)) (gN 2) (sSeq (sIf (tVal (eFn 1 (lCons (eV 2) lNil))) (sSeq (sIf (tNot (tVal (eMt [(1, 66)] (eV 0) (lCons (eV 2) lNil)))) (sSeq (sRet (eC (.bl false))) sNext) sNext) sNext) (sSeq (sIf (tOr (tNot (tVal (eFn 68 (lCons (eV 2) lNil)))) (tNot (tVal (eMt [(1, 67)] (eV 0) (lCons (eV 2) lNil))))) (sSeq (sRet (eC (.bl false))) sNext) sNext) sNext)) sNext)) (sSeq (sRet (eC (.bl true))) sNext)
def d_spell_on : FDef := ⟨2, 3, b_spell_on⟩
abbrev F_spells : Nat := 70
/-- slots: shelf 0, text 1, items 2, front 3 -/
def b_spells : TSt := sSeq (sDrop (eMt [(0, 14)] (eV 0) (lCons (eV 1) lNil))) (sSeq (sAsg (eMk 1 60 (lCons (eV 0) (lCons (eV 1) lNil))) (gN 3)) (sSeq (sRet (eAnd (eFn 69 (lCons (eV 3) (lCons (eV 2) lNil))) (eMt [(1, 61), (2, 79)] (eV 3) lNil))) sNext))
def d_spells : FDef := ⟨3, 4, b_spells⟩
abbrev F_met : Nat := 73
/-- slots: shelf 0, one 1, other 2, mine 3, yours 4 -/
def b_met : TSt := sSeq (sWhile (tVal (eC (.bl true))) (sSeq (sAsg (eMt [(1, 62)] (eV 1) lNil) (gN 3)) (sSeq (sAsg (eMt [(1, 62)] (eV 2) lNil) (gN 4)) (sSeq (sIf (tAnd (tBl (eCmp .Eq (eV 3) (eV 4))) (tBl (eCmp .NotEq (eV 3) (eC (.int 0))))) (sSeq (sDrop (eMt [(1, 66)] (eV 1) (lCons (eV 3) lNil))) (sSeq (sDrop (eMt [(1, 66)] (eV 2) (lCons (eV 3) lNil))) (sSeq (sRet (eV 3)) sNext))) sNext) (sSeq (sIf (tAnd (tBl (eCmp .LtE (eMt [(0, 17)] (eV 0) (lCons (eV 3) lNil)) (eC (.int 0)))) (tBl (eCmp .LtE (eMt [(0, 17)] (eV 0) (lCons (eV 4) lNil)) (eC (.int 0))))) (sSeq (sRet (eFn 74 (lCons (eV 1) (lCons (eV 2) lNil)))) sNext) sNext) (sSeq (sIf (tBl (eCmp .GtE (eMt [(0, 14)] (eV 0) (lCons (eV 3) lNil)) (eMt [(0, 14)] (eV 0) (lCons (eV 4) lNil)))) (sSeq (sDrop (eMt [(1, 63), (2, 82)] (eV 1) lNil)) sNext) (sSeq (sDrop (eMt [(1, 63), (2, 82)] (eV 2) lNil)) sNext)) sNext)))))) sNext
def d_met : FDef := ⟨3, 5, b_met⟩
abbrev F_met_signs : Nat := 74
/-- slots: one 0, other 1, mine 2, yours 3, many 4 -/
def b_met_signs : TSt := sSeq (sAsg (eMt [(1, 64)] (eV 0) lNil) (gN 2)) (sSeq (sAsg (eMt [(1, 64)] (eV 1) lNil) (gN 3)) (sSeq (sAsg (eBi .min (lCons (eBi .len (lCons (eV 2) lNil)) (lCons (eBi .len (lCons (eV 3) lNil)) lNil))) (gN 4)) (sSeq (sIf (tOr (tBl (eCmp .Eq (eV 4) (eC (.int 0)))) (tBl (eCmp .NotEq (eSl (eV 2) oNone (oSome (eV 4))) (eSl (eV 3) oNone (oSome (eV 4)))))) (sSeq (sRet (eC .non)) sNext) sNext) (sSeq (sDrop (eMt [(1, 65)] (eV 0) (lCons (eV 4) lNil))) (sSeq (sDrop (eMt [(1, 65)] (eV 1) (lCons (eV 4) lNil))) (sSeq (sRet (eSl (eV 2) oNone (oSome (eV 4)))) sNext))))))
def d_met_signs : FDef := ⟨2, 5, b_met_signs⟩
abbrev F_spelled_by : Nat := 75
/-- slots: shelf 0, front 1, text 2, mine 3, items 4, item 5 -/
def b_spelled_by : TSt := sSeq (sAsg (eMk 1 60 (lCons (eV 0) (lCons (eV 2) lNil))) (gN 3)) (sSeq (sAsg (eLst lNil) (gN 4)) (sSeq (sWhile (tNot (tVal (eMt [(1, 61), (2, 79)] (eV 3) lNil))) (sSeq (sAsg (eFn 73 (lCons (eV 0) (lCons (eV 3) (lCons (eV 1) lNil)))) (gN 5)) (sSeq (sIf (tBl (eCmp .Is (eV 5) (eC .non))) (sSeq (sRet (eC .non)) sNext) sNext) (sSeq (sDrop (eBm .append (eV 4) (lCons (eV 5) lNil))) sNext)))) (sSeq (sRet (eV 4)) sNext)))
def d_spelled_by : FDef := ⟨3, 6, b_spelled_by⟩
abbrev F_paper_of : Nat := 76
/-- slots: shelf 0, texts 1, other 2, text 3, front 4, paper 5, items 6 -/
def b_paper_of : TSt := sSeq (sFor (iVal (eBin .Add (eV 1) (eLst (lCons (eV 2) lNil)))) (gN 3) (sSeq (sDrop (eMt [(0, 14)] (eV 0) (lCons (eV 3) lNil))) sNext)) (sSeq (sAsg (eMk 1 60 (lCons (eV 0) (lCons (eV 2) lNil))) (gN 4)) (sSeq (sAsg (eLst lNil) (gN 5)) (sSeq (sFor (iVal (eV 1)) (gN 3) (sSeq (sAsg (eFn 75 (lCons (eV 0) (lCons (eV 4) (lCons (eV 3) lNil)))) (gN 6)) (sSeq (sIf (tBl (eCmp .Is (eV 6) (eC .non))) (sSeq (sRet (eC .non)) sNext) sNext) (sSeq (sDrop (eBm .append (eV 5) (lCons (eV 6) lNil))) sNext)))) (sSeq (sIf (tNot (tVal (eMt [(1, 61), (2, 79)] (eV 4) lNil))) (sSeq (sRet (eC .non)) sNext) sNext) (sSeq (sRet (eV 5)) sNext)))))
def d_paper_of : FDef := ⟨3, 7, b_paper_of⟩
abbrev F_paper_stands : Nat := 77
/-- slots: shelf 0, texts 1, other 2, paper 3, text 4, line 5, items 6 -/
def b_paper_stands : TSt := sSeq (sFor (iVal (eBin .Add (eV 1) (eLst (lCons (eV 2) lNil)))) (gN 4) (sSeq (sDrop (eMt [(0, 14)] (eV 0) (lCons (eV 4) lNil))) sNext)) (sSeq (sIf (tBl (eCmp .NotEq (eBi .len (lCons (eV 3) lNil)) (eBi .len (lCons (eV 1) lNil)))) (sSeq (sRet (eC (.bl false))) sNext) sNext) (sSeq (sAsg (eLst lNil) (gN 5)) (sSeq (sFor (iZip (eV 1) (eV 3)) (gTp [4, 6]) (sSeq (sIf (tNot (tVal (eFn 70 (lCons (eV 0) (lCons (eV 4) (lCons (eV 6) lNil)))))) (sSeq (sRet (eC (.bl false))) sNext) sNext) (sSeq (sDrop (eBm .extend (eV 5) (lCons (eV 6) lNil))) sNext))) (sSeq (sRet (eFn 70 (lCons (eV 0) (lCons (eV 2) (lCons (eV 5) lNil))))) sNext))))
def d_paper_stands : FDef := ⟨4, 7, b_paper_stands⟩
abbrev F_shelf_text : Nat := 122
/-- slots: shelf 0, number 1 -/
def b_shelf_text : TSt := sSeq (sRet (eBm .join (eC (.str "\n")) (lCons (eLc (iRng1 (eMt [(0, 12)] (eV 0) lNil)) (gN 1) tYes (eFn 121 (lCons (eMt [(0, 13)] (eV 0) (lCons (eBin .Add (eV 1) (eC (.int 1))) lNil)) lNil)) [1]) lNil))) sNext
def d_shelf_text : FDef := ⟨1, 2, b_shelf_text⟩
abbrev F_laid_by : Nat := 123
/-- slots: shelf 0, row 1, word 2, blank 3, rest 4, plain 5, numbers 6, part 7 -/
def b_laid_by : TSt := sSeq (sAsg (eBm .partition (eV 1) (lCons (eC (.str " ")) lNil)) (gTp [2, 3, 4])) (sSeq (sIf (tAnd (tBl (eCmp .Eq (eV 2) (eC (.str "leaf")))) (tBl (eCmp .Eq (eV 3) (eC (.str " "))))) (sSeq (sAsg (eFn 119 (lCons (eV 4) lNil)) (gN 5)) (sSeq (sIf (tBl (eCmp .Is (eV 5) (eC .non))) (sSeq (sRet (eC (.bl false))) sNext) sNext) (sSeq (sDrop (eMt [(0, 21)] (eV 0) (lCons (eV 5) lNil))) (sSeq (sRet (eC (.bl true))) sNext)))) sNext) (sSeq (sAsg (eLc (iVal (eBm .split (eV 4) (lCons (eC (.str " ")) lNil))) (gN 7) tYes (eFn 120 (lCons (eV 7) lNil)) [7]) (gN 6)) (sSeq (sIf (tOr (tBl (eCmp .NotEq (eV 2) (eC (.str "fork")))) (tOr (tBl (eCmp .NotEq (eBi .len (lCons (eV 6) lNil)) (eC (.int 2)))) (tBl (eCmp .In (eC .non) (eV 6))))) (sSeq (sRet (eC (.bl false))) sNext) sNext) (sSeq (sDrop (eMt [(0, 22)] (eV 0) (lCons (eIx (eV 6) (eC (.int 0))) (lCons (eIx (eV 6) (eC (.int 1))) lNil)))) (sSeq (sRet (eC (.bl true))) sNext)))))
def d_laid_by : FDef := ⟨2, 8, b_laid_by⟩
abbrev F_read_shelf : Nat := 125
/-- slots: plain 0, shelf 1, rows 2, number 3, row 4 -/
def b_read_shelf : TSt := sSeq (sAsg (eMk 0 9 lNil) (gN 1)) (sSeq (sAsg (eBm .split (eV 0) (lCons (eC (.str "\n")) lNil)) (gN 2)) (sSeq (sIf (tBl (eCmp .Eq (eV 0) (eC (.str "")))) (sSeq (sAsg (eLst lNil) (gN 2)) sNext) sNext) (sSeq (sFor (iEnm (eV 2)) (gTp [3, 4]) (sSeq (sIf (tNot (tVal (eFn 124 (lCons (eV 1) (lCons (eV 4) lNil))))) (sSeq (sRaise 9) sNext) sNext) sNext)) (sSeq (sRet (eV 1)) sNext))))
def d_read_shelf : FDef := ⟨1, 5, b_read_shelf⟩
abbrev F_place_of : Nat := 99
/-- slots: shelf 0, text 1, word 2, k 3, finder 4 -/
def b_place_of : TSt := sSeq (sDrop (eMt [(0, 14)] (eV 0) (lCons (eV 1) lNil))) (sSeq (sDrop (eFn 91 (lCons (eV 2) lNil))) (sSeq (sAsg (eMk 3 93 (lCons (eV 0) (lCons (eV 2) lNil))) (gN 4)) (sSeq (sIf (tNot (tBl (eChn (eC (.int 0)) [(.LtE, eV 3), (.Lt, eMt [(3, 96)] (eV 4) (lCons (eV 1) lNil))]))) (sSeq (sRaise 6) sNext) sNext) (sSeq (sRet (eMt [(3, 97)] (eV 4) (lCons (eV 1) (lCons (eV 3) lNil)))) sNext))))
def d_place_of : FDef := ⟨4, 5, b_place_of⟩
abbrev F_lies_in : Nat := 24
/-- slots: shelf 0, number 1, place 2, word 3, one 4, other 5, ahead 6 -/
def b_lies_in : TSt := sSeq (sAsg (eMt [(0, 13)] (eV 0) (lCons (eV 1) lNil)) (gTp [3, 4, 5])) (sSeq (sAsg (eMt [(0, 14)] (eV 0) (lCons (eV 4) lNil)) (gN 6)) (sSeq (sIf (tBl (eCmp .Lt (eV 2) (eV 6))) (sSeq (sRet (eTup (lCons (eV 4) (lCons (eV 2) lNil)))) sNext) sNext) (sSeq (sRet (eTup (lCons (eV 5) (lCons (eBin .Sub (eV 2) (eV 6)) lNil)))) sNext)))
def d_lies_in : FDef := ⟨3, 7, b_lies_in⟩
abbrev F_way_and_place : Nat := 25
/-- slots: shelf 0, text 1, place 2, signs 3, way 4, part 5 -/
def b_way_and_place : TSt := sSeq (sAsg (eMt [(0, 14)] (eV 0) (lCons (eV 1) lNil)) (gN 3)) (sSeq (sIf (tNot (tBl (eChn (eC (.int 0)) [(.LtE, eV 2), (.Lt, eV 3)]))) (sSeq (sRaise 6) sNext) sNext) (sSeq (sAsg (eLst (lCons (eV 1) lNil)) (gN 4)) (sSeq (sWhile (tBl (eCmp .Gt (eMt [(0, 17)] (eV 0) (lCons (eIx (eV 4) (eNeg (eC (.int 1)))) lNil)) (eC (.int 0)))) (sSeq (sAsg (eFn 24 (lCons (eV 0) (lCons (eIx (eV 4) (eNeg (eC (.int 1)))) (lCons (eV 2) lNil)))) (gTp [5, 2])) (sSeq (sDrop (eBm .append (eV 4) (lCons (eV 5) lNil))) sNext))) (sSeq (sRet (eTup (lCons (eV 4) (lCons (eV 2) lNil)))) sNext))))
def d_way_and_place : FDef := ⟨3, 6, b_way_and_place⟩
abbrev F_way_to : Nat := 26
/-- slots: shelf 0, text 1, place 2 -/
def b_way_to : TSt := sSeq (sRet (eIx (eFn 25 (lCons (eV 0) (lCons (eV 1) (lCons (eV 2) lNil)))) (eC (.int 0)))) sNext
def d_way_to : FDef := ⟨3, 3, b_way_to⟩
abbrev F_way_stands : Nat := 27
/-- slots: shelf 0, text 1, place 2, way 3, sign 4, signs 5, here 6, number 7, part 8 -/
def b_way_stands : TSt := sSeq (sAsg (eMt [(0, 14)] (eV 0) (lCons (eV 1) lNil)) (gN 5)) (sSeq (sIf (tOr (tNot (tBl (eChn (eC (.int 0)) [(.LtE, eV 2), (.Lt, eV 5)]))) (tOr (tBl (eCmp .Eq (eV 3) (eLst lNil))) (tBl (eCmp .NotEq (eIx (eV 3) (eC (.int 0))) (eV 1))))) (sSeq (sRet (eC (.bl false))) sNext) sNext) (sSeq (sAsg (eV 1) (gN 6)) (sSeq (sFor (iVal (eSl (eV 3) (oSome (eC (.int 1))) oNone)) (gN 7) (sSeq (sIf (tBl (eCmp .Eq (eMt [(0, 17)] (eV 0) (lCons (eV 6) lNil)) (eC (.int 0)))) (sSeq (sRet (eC (.bl false))) sNext) sNext) (sSeq (sAsg (eFn 24 (lCons (eV 0) (lCons (eV 6) (lCons (eV 2) lNil)))) (gTp [8, 2])) (sSeq (sIf (tBl (eCmp .NotEq (eV 7) (eV 8))) (sSeq (sRet (eC (.bl false))) sNext) sNext) (sSeq (sAsg (eV 8) (gN 6)) sNext))))) (sSeq (sIf (tBl (eCmp .Gt (eMt [(0, 17)] (eV 0) (lCons (eV 6) lNil)) (eC (.int 0)))) (sSeq (sRet (eC (.bl false))) sNext) sNext) (sSeq (sRet (eCmp .Eq (eIx (eIx (eMt [(0, 13)] (eV 0) (lCons (eV 6) lNil)) (eC (.int 1))) (eV 2)) (eV 4))) sNext)))))
def d_way_stands : FDef := ⟨5, 9, b_way_stands⟩
abbrev F_sign_at : Nat := 28
/-- slots: shelf 0, text 1, place 2, way 3, within 4 -/
def b_sign_at : TSt := sSeq (sAsg (eFn 25 (lCons (eV 0) (lCons (eV 1) (lCons (eV 2) lNil)))) (gTp [3, 4])) (sSeq (sRet (eIx (eIx (eMt [(0, 13)] (eV 0) (lCons (eIx (eV 3) (eNeg (eC (.int 1)))) lNil)) (eC (.int 1))) (eV 4))) sNext)
def d_sign_at : FDef := ⟨3, 5, b_sign_at⟩
abbrev F_ends_ahead : Nat := 33
/-- slots: shelf 0, text 1, place 2, many 3, word 4, one 5, other 6 -/
def b_ends_ahead : TSt := sSeq (sAsg (eC (.int 0)) (gN 3)) (sSeq (sWhile (tBl (eCmp .Gt (eMt [(0, 17)] (eV 0) (lCons (eV 1) lNil)) (eC (.int 0)))) (sSeq (sAsg (eMt [(0, 13)] (eV 0) (lCons (eV 1) lNil)) (gTp [4, 5, 6])) (sSeq (sIf (tBl (eCmp .Lt (eV 2) (eMt [(0, 14)] (eV 0) (lCons (eV 5) lNil)))) (sSeq (sAsg (eV 5) (gN 1)) sNext) (sSeq (sAsg (eBin .Add (eV 3) (eMt [(0, 15)] (eV 0) (lCons (eV 5) lNil))) (gN 3)) (sSeq (sAsg (eBin .Sub (eV 2) (eMt [(0, 14)] (eV 0) (lCons (eV 5) lNil))) (gN 2)) (sSeq (sAsg (eV 6) (gN 1)) sNext)))) sNext))) (sSeq (sIf (tBl (eCmp .Eq (eV 1) (eC (.int 0)))) (sSeq (sRet (eV 3)) sNext) sNext) (sSeq (sRet (eBin .Add (eV 3) (eBm .count (eSl (eIx (eMt [(0, 13)] (eV 0) (lCons (eV 1) lNil)) (eC (.int 1))) oNone (oSome (eV 2))) (lCons (eC (.str "\n")) lNil)))) sNext)))
def d_ends_ahead : FDef := ⟨3, 7, b_ends_ahead⟩
abbrev F_row_at : Nat := 37
/-- slots: shelf 0, text 1, place 2, signs 3, row 4 -/
def b_row_at : TSt := sSeq (sAsg (eMt [(0, 14)] (eV 0) (lCons (eV 1) lNil)) (gN 3)) (sSeq (sIf (tNot (tBl (eChn (eC (.int 0)) [(.LtE, eV 2), (.LtE, eV 3)]))) (sSeq (sRaise 6) sNext) sNext) (sSeq (sAsg (eFn 33 (lCons (eV 0) (lCons (eV 1) (lCons (eV 2) lNil)))) (gN 4)) (sSeq (sRet (eTup (lCons (eV 4) (lCons (eBin .Sub (eV 2) (eFn 35 (lCons (eV 0) (lCons (eV 1) (lCons (eV 4) lNil))))) lNil)))) sNext)))
def d_row_at : FDef := ⟨3, 5, b_row_at⟩
abbrev F_swept : Nat := 101
/-- slots: shelf 0, texts 1, clean 2, numbers 3, number 4, piece 5, text 6 -/
def b_swept : TSt := sSeq (sAsg (eMk 0 9 lNil) (gN 2)) (sSeq (sAsg (eDisp [(eC (.int 0), eC (.int 0))]) (gN 3)) (sSeq (sFor (iVal (eFn 100 (lCons (eV 0) (lCons (eV 1) lNil)))) (gN 4) (sSeq (sAsg (eMt [(0, 13)] (eV 0) (lCons (eV 4) lNil)) (gN 5)) (sSeq (sIf (tBl (eCmp .Eq (eIx (eV 5) (eC (.int 0))) (eC (.str "leaf")))) (sSeq (sSetIx (eV 3) (eV 4) (eMt [(0, 21)] (eV 2) (lCons (eIx (eV 5) (eC (.int 1))) lNil))) sNext) (sSeq (sSetIx (eV 3) (eV 4) (eMt [(0, 22)] (eV 2) (lCons (eIx (eV 3) (eIx (eV 5) (eC (.int 1)))) (lCons (eIx (eV 3) (eIx (eV 5) (eC (.int 2)))) lNil)))) sNext)) sNext))) (sSeq (sRet (eTup (lCons (eV 2) (lCons (eLc (iVal (eV 1)) (gN 6) tYes (eIx (eV 3) (eV 6)) [6]) lNil)))) sNext)))
def d_swept : FDef := ⟨2, 7, b_swept⟩
abbrev F_whole_text : Nat := 31
/-- slots: shelf 0, text 1 -/
def b_whole_text : TSt := sSeq (sRet (eFn 30 (lCons (eV 0) (lCons (eV 1) (lCons (eC (.int 0)) (lCons (eMt [(0, 14)] (eV 0) (lCons (eV 1) lNil)) lNil)))))) sNext
def d_whole_text : FDef := ⟨2, 2, b_whole_text⟩
abbrev F_begins_text : Nat := 71
/-- slots: shelf 0, text 1, items 2 -/
def b_begins_text : TSt := sSeq (sDrop (eMt [(0, 14)] (eV 0) (lCons (eV 1) lNil))) (sSeq (sRet (eFn 69 (lCons (eMk 1 60 (lCons (eV 0) (lCons (eV 1) lNil))) (lCons (eV 2) lNil)))) sNext)
def d_begins_text : FDef := ⟨3, 3, b_begins_text⟩
abbrev F_sign_behind : Nat := 89
/-- slots: shelf 0, text 1, place 2 -/
def b_sign_behind : TSt := sSeq (sIf (tBl (eCmp .GtE (eV 2) (eMt [(0, 14)] (eV 0) (lCons (eV 1) lNil)))) (sSeq (sRet (eC (.str ""))) sNext) sNext) (sSeq (sRet (eFn 28 (lCons (eV 0) (lCons (eV 1) (lCons (eV 2) lNil))))) sNext)
def d_sign_behind : FDef := ⟨3, 3, b_sign_behind⟩
abbrev F_told_stands : Nat := 90
/-- slots: shelf 0, one 1, other 2, told 3, items 4, place 5, here 6, there 7 -/
def b_told_stands : TSt := sSeq (sDrop (eMt [(0, 14)] (eV 0) (lCons (eV 1) lNil))) (sSeq (sDrop (eMt [(0, 14)] (eV 0) (lCons (eV 2) lNil))) (sSeq (sAsg (eIx (eV 3) (eC (.int 1))) (gN 4)) (sSeq (sIf (tBl (eCmp .Eq (eIx (eV 3) (eC (.int 0))) (eC (.str "alike")))) (sSeq (sRet (eAnd (eFn 70 (lCons (eV 0) (lCons (eV 1) (lCons (eV 4) lNil)))) (eFn 70 (lCons (eV 0) (lCons (eV 2) (lCons (eV 4) lNil)))))) sNext) sNext) (sSeq (sIf (tOr (tNot (tVal (eFn 71 (lCons (eV 0) (lCons (eV 1) (lCons (eV 4) lNil)))))) (tNot (tVal (eFn 71 (lCons (eV 0) (lCons (eV 2) (lCons (eV 4) lNil))))))) (sSeq (sRet (eC (.bl false))) sNext) sNext) (sSeq (sAsg (eFn 72 (lCons (eV 0) (lCons (eV 4) lNil))) (gN 5)) (sSeq (sAsg (eFn 89 (lCons (eV 0) (lCons (eV 1) (lCons (eV 5) lNil)))) (gN 6)) (sSeq (sAsg (eFn 89 (lCons (eV 0) (lCons (eV 2) (lCons (eV 5) lNil)))) (gN 7)) (sSeq (sRet (eAnd (eCmp .NotEq (eV 6) (eV 7)) (eAnd (eCmp .Eq (eIx (eV 3) (eC (.int 2))) (eV 6)) (eCmp .Eq (eIx (eV 3) (eC (.int 3))) (eV 7))))) sNext))))))))
def d_told_stands : FDef := ⟨4, 8, b_told_stands⟩
end SW
end

section
set_option Elab.async false
set_option linter.all false
set_option maxRecDepth 100000
set_option maxHeartbeats 4000000
namespace SW
open PySem L2
abbrev F_wall : Nat := 200
/-- slots: k 0 -/
def b_wall : TSt := sSeq (sWhile (tVal (eC (.bl true))) (sSeq sNext sNext)) sNext
def d_wall : FDef := ⟨1, 1, b_wall⟩
abbrev F_law_mixed : Nat := 201
/-- slots: cell 0, k 1, one 2 -/
def b_law_mixed : TSt := sSeq (sAsg (eBin .Mod (eBin .Mult (eBin .Add (eBin .Add (eBin .Mod (eV 0) (eC (.int 1000000007))) (eBin .Mult (eC (.int 7919)) (eV 1))) (eC (.int 101))) (eC (.int 48271))) (eC (.int 2147483647))) (gN 2)) (sSeq (sRet (eBin .Mod (eBin .Mult (eBin .Mod (eBin .Mult (eV 2) (eV 2)) (eC (.int 2147483629))) (eC (.int 69621))) (eC (.int 2147483647)))) sNext)
def d_law_mixed : FDef := ⟨2, 3, b_law_mixed⟩
abbrev F_law_stream : Nat := 202
/-- slots: script 0, k 1, cell 2, j 3, found 4, one 5 -/
def b_law_stream : TSt := sSeq (sAsg (eC (.int 0)) (gN 2)) (sSeq (sFor (iRng3 (eV 1) (eBi .len (lCons (eV 0) lNil)) (eC (.int 8))) (gN 3) (sSeq (sAsg (eBin .Add (eBin .Mult (eV 2) (eBin .Mult (eBin .Pow (eC (.int 10)) (eC (.int 60))) (eBin .Pow (eC (.int 10)) (eC (.int 60))))) (eBin .Mod (eIx (eV 0) (eV 3)) (eBin .Mult (eBin .Pow (eC (.int 10)) (eC (.int 60))) (eBin .Pow (eC (.int 10)) (eC (.int 60)))))) (gN 2)) sNext)) (sSeq (sIf (tBl (eCmp .GtE (eV 2) (eBin .Pow (eC (.int 10)) (eC (.int 18))))) (sSeq (sRet (eLst (lCons (eV 2) lNil))) sNext) sNext) (sSeq (sAsg (eBin .Add (eV 2) (eBi .sum (lCons (eLc (iVal (eV 0)) (gN 5) tYes (eBin .Mod (eV 5) (eBin .Pow (eC (.int 10)) (eC (.int 18)))) [5]) lNil))) (gN 2)) (sSeq (sAsg (eC (.int 0)) (gN 4)) (sSeq (sFor (iRng1 (eC (.int 16))) (gN 3) (sSeq (sAsg (eBin .Add (eBin .Mult (eV 4) (eC (.int 2147483647))) (eFn 201 (lCons (eBin .Add (eBin .Add (eV 2) (eBin .Mult (eC (.int 1009)) (eV 1))) (eBi .len (lCons (eV 0) lNil))) (lCons (eV 3) lNil)))) (gN 4)) sNext)) (sSeq (sRet (eLst (lCons (eV 4) lNil))) sNext))))))
def d_law_stream : FDef := ⟨2, 6, b_law_stream⟩
abbrev F_law_take : Nat := 203
/-- slots: stream 0, many 1, digit 2 -/
def b_law_take : TSt := sSeq (sAsg (eBin .Mod (eIx (eV 0) (eC (.int 0))) (eV 1)) (gN 2)) (sSeq (sSetIx (eV 0) (eC (.int 0)) (eBin .FloorDiv (eIx (eV 0) (eC (.int 0))) (eV 1))) (sSeq (sRet (eV 2)) sNext))
def d_law_take : FDef := ⟨2, 3, b_law_take⟩
abbrev F_law_plain : Nat := 204
/-- slots: stream 0, most 1, kinds 2, found 3, k 4 -/
def b_law_plain : TSt := sSeq (sAsg (eIx (eLst (lCons (eC (.str "ab")) (lCons (eC (.str "aaab")) (lCons (eC (.str "a\n")) (lCons (eC (.str "ab \n")) (lCons (eC (.str "abcdefghijklmnopqrstuvwxyz 0123456789.,~\n")) lNil)))))) (eFn 203 (lCons (eV 0) (lCons (eC (.int 5)) lNil)))) (gN 2)) (sSeq (sAsg (eC (.str "")) (gN 3)) (sSeq (sFor (iRng1 (eFn 203 (lCons (eV 0) (lCons (eBin .Add (eV 1) (eC (.int 1))) lNil)))) (gN 4) (sSeq (sAsg (eBin .Add (eV 3) (eIx (eV 2) (eFn 203 (lCons (eV 0) (lCons (eBi .len (lCons (eV 2) lNil)) lNil))))) (gN 3)) sNext)) (sSeq (sRet (eV 3)) sNext)))
def d_law_plain : FDef := ⟨2, 5, b_law_plain⟩
abbrev F_law_long : Nat := 205
/-- slots: blocks 0, plain 1, many 2 -/
def b_law_long : TSt := sSeq (sRet (eBi .sum (lCons (eLc (iVal (eV 0)) (gTp [1, 2]) tYes (eBin .Mult (eBi .len (lCons (eV 1) lNil)) (eV 2)) [1, 2]) lNil))) sNext
def d_law_long : FDef := ⟨1, 3, b_law_long⟩
abbrev F_law_first : Nat := 206
/-- slots: blocks 0, at 1, found 2, plain 3, many 4, full 5, block 6 -/
def b_law_first : TSt := sSeq (sAsg (eLst lNil) (gN 2)) (sSeq (sFor (iVal (eV 0)) (gTp [3, 4]) (sSeq (sIf (tBl (eCmp .Gt (eV 1) (eC (.int 0)))) (sSeq (sAsg (eBi .min (lCons (eV 4) (lCons (eBin .FloorDiv (eV 1) (eBi .len (lCons (eV 3) lNil))) lNil))) (gN 5)) (sSeq (sDrop (eBm .append (eV 2) (lCons (eTup (lCons (eV 3) (lCons (eV 5) lNil))) lNil))) (sSeq (sAsg (eBin .Sub (eV 1) (eBin .Mult (eV 5) (eBi .len (lCons (eV 3) lNil)))) (gN 1)) (sSeq (sIf (tAnd (tBl (eCmp .Lt (eV 5) (eV 4))) (tBl (eCmp .Gt (eV 1) (eC (.int 0))))) (sSeq (sDrop (eBm .append (eV 2) (lCons (eTup (lCons (eSl (eV 3) oNone (oSome (eV 1))) (lCons (eC (.int 1)) lNil))) lNil))) (sSeq (sAsg (eC (.int 0)) (gN 1)) sNext)) sNext) sNext)))) sNext) sNext)) (sSeq (sRet (eLc (iVal (eV 2)) (gN 6) (tBl (eCmp .Gt (eIx (eV 6) (eC (.int 1))) (eC (.int 0)))) (eV 6) [6])) sNext))
def d_law_first : FDef := ⟨2, 7, b_law_first⟩
abbrev F_law_rest : Nat := 207
/-- slots: blocks 0, at 1, found 2, plain 3, many 4, full 5, block 6 -/
def b_law_rest : TSt := sSeq (sAsg (eLst lNil) (gN 2)) (sSeq (sFor (iVal (eV 0)) (gTp [3, 4]) (sSeq (sAsg (eBi .min (lCons (eV 4) (lCons (eBin .FloorDiv (eV 1) (eBi .len (lCons (eV 3) lNil))) lNil))) (gN 5)) (sSeq (sAsg (eBin .Sub (eV 1) (eBin .Mult (eV 5) (eBi .len (lCons (eV 3) lNil)))) (gN 1)) (sSeq (sIf (tAnd (tBl (eCmp .Lt (eV 5) (eV 4))) (tBl (eCmp .Gt (eV 1) (eC (.int 0))))) (sSeq (sDrop (eBm .append (eV 2) (lCons (eTup (lCons (eSl (eV 3) (oSome (eV 1)) oNone) (lCons (eC (.int 1)) lNil))) lNil))) (sSeq (sAsg (eBin .Add (eV 5) (eC (.int 1))) (gN 5)) (sSeq (sAsg (eC (.int 0)) (gN 1)) sNext))) sNext) (sSeq (sDrop (eBm .append (eV 2) (lCons (eTup (lCons (eV 3) (lCons (eBin .Sub (eV 4) (eV 5)) lNil))) lNil))) sNext))))) (sSeq (sRet (eLc (iVal (eV 2)) (gN 6) (tBl (eCmp .Gt (eIx (eV 6) (eC (.int 1))) (eC (.int 0)))) (eV 6) [6])) sNext))
def d_law_rest : FDef := ⟨2, 7, b_law_rest⟩
abbrev F_law_signs : Nat := 208
/-- slots: blocks 0, begin 1, end 2, found 3, plain 4, many 5 -/
def b_law_signs : TSt := sSeq (sAsg (eC (.str "")) (gN 3)) (sSeq (sFor (iVal (eFn 206 (lCons (eFn 207 (lCons (eV 0) (lCons (eV 1) lNil))) (lCons (eBin .Sub (eV 2) (eV 1)) lNil)))) (gTp [4, 5]) (sSeq (sAsg (eBin .Add (eV 3) (eBin .Mult (eV 4) (eV 5))) (gN 3)) sNext)) (sSeq (sRet (eV 3)) sNext))
def d_law_signs : FDef := ⟨3, 6, b_law_signs⟩
abbrev F_law_same : Nat := 209
/-- slots: house 0, blocks 1, number 2, stream 3, signs 4, place 5, end 6 -/
def b_law_same : TSt := sSeq (sAsg (eFn 205 (lCons (eV 1) lNil)) (gN 4)) (sSeq (sIf (tBl (eCmp .NotEq (eMt [(0, 14)] (eMt [(4, 104)] (eV 0) lNil) (lCons (eV 2) lNil)) (eV 4))) (sSeq (sRet (eC (.bl false))) sNext) sNext) (sSeq (sFor (iVal (eLst (lCons (eC (.int 0)) (lCons (eBi .max (lCons (eC (.int 0)) (lCons (eBin .Sub (eV 4) (eC (.int 40))) lNil))) (lCons (eFn 203 (lCons (eV 3) (lCons (eBin .Add (eV 4) (eC (.int 1))) lNil))) (lCons (eFn 203 (lCons (eV 3) (lCons (eBin .Add (eV 4) (eC (.int 1))) lNil))) lNil)))))) (gN 5) (sSeq (sAsg (eBi .min (lCons (eV 4) (lCons (eBin .Add (eV 5) (eC (.int 40))) lNil))) (gN 6)) (sSeq (sIf (tBl (eCmp .NotEq (eFn 30 (lCons (eMt [(4, 104)] (eV 0) lNil) (lCons (eV 2) (lCons (eV 5) (lCons (eV 6) lNil))))) (eFn 208 (lCons (eV 1) (lCons (eV 5) (lCons (eV 6) lNil)))))) (sSeq (sRet (eC (.bl false))) sNext) sNext) sNext))) (sSeq (sRet (eC (.bl true))) sNext)))
def d_law_same : FDef := ⟨4, 7, b_law_same⟩
abbrev F_law_deed : Nat := 210
/-- slots: house 0, stream 1, known 2, name 3, other 4, blocks 5, signs 6, begin 7, end 8, kind 9, many 10, plain 11, more 12 -/
def b_law_deed : TSt := sSeq (sAsg (eIx (eC (.str "abc")) (eFn 203 (lCons (eV 1) (lCons (eC (.int 3)) lNil)))) (gN 3)) (sSeq (sAsg (eIx (eC (.str "abc")) (eFn 203 (lCons (eV 1) (lCons (eC (.int 3)) lNil)))) (gN 4)) (sSeq (sAsg (eIx (eV 2) (eV 3)) (gN 5)) (sSeq (sAsg (eFn 205 (lCons (eV 5) lNil)) (gN 6)) (sSeq (sAsg (eFn 203 (lCons (eV 1) (lCons (eBin .Add (eV 6) (eC (.int 1))) lNil))) (gN 7)) (sSeq (sAsg (eBin .Add (eV 7) (eFn 203 (lCons (eV 1) (lCons (eIx (eLst (lCons (eBin .Add (eBin .Sub (eV 6) (eV 7)) (eC (.int 1))) (lCons (eBi .min (lCons (eC (.int 40)) (lCons (eBin .Add (eBin .Sub (eV 6) (eV 7)) (eC (.int 1))) lNil))) lNil))) (eFn 203 (lCons (eV 1) (lCons (eC (.int 2)) lNil)))) lNil)))) (gN 8)) (sSeq (sAsg (eFn 203 (lCons (eV 1) (lCons (eC (.int 5)) lNil))) (gN 9)) (sSeq (sIf (tBl (eCmp .Gt (eBin .Add (eBi .len (lCons (eV 5) lNil)) (eBi .len (lCons (eIx (eV 2) (eV 4)) lNil))) (eC (.int 40)))) (sSeq (sAsg (eBin .Add (eC (.int 3)) (eBin .Mod (eV 9) (eC (.int 2)))) (gN 9)) sNext) sNext) (sSeq (sAsg (eFn 203 (lCons (eV 1) (lCons (eIx (eLst (lCons (eC (.int 4)) (lCons (eC (.int 1000)) (lCons (eBin .Pow (eC (.int 10)) (eC (.int 15))) lNil)))) (eFn 203 (lCons (eV 1) (lCons (eC (.int 3)) lNil)))) lNil))) (gN 10)) (sSeq (sIf (tAnd (tBl (eCmp .Eq (eV 9) (eC (.int 0)))) (tAnd (tBl (eCmp .LtE (eBin .Mult (eV 6) (eV 10)) (eBin .Pow (eC (.int 10)) (eC (.int 17))))) (tBl (eCmp .Lt (eBi .len (lCons (eV 5) lNil)) (eC (.int 2)))))) (sSeq (sDrop (eMt [(4, 114)] (eV 0) (lCons (eV 3) (lCons (eV 10) lNil)))) (sSeq (sRet (eTup (lCons (eV 3) (lCons (eLc (iVal (eV 5)) (gTp [11, 12]) (tBl (eCmp .Gt (eV 10) (eC (.int 0)))) (eTup (lCons (eV 11) (lCons (eBin .Mult (eV 12) (eV 10)) lNil))) [11, 12]) lNil)))) sNext)) sNext) (sSeq (sIf (tAnd (tBl (eCmp .Eq (eV 9) (eC (.int 1)))) (tBl (eCmp .LtE (eBin .Add (eV 6) (eFn 205 (lCons (eIx (eV 2) (eV 4)) lNil))) (eBin .Pow (eC (.int 10)) (eC (.int 17)))))) (sSeq (sDrop (eMt [(4, 111)] (eV 0) (lCons (eV 3) (lCons (eV 4) lNil)))) (sSeq (sRet (eTup (lCons (eV 3) (lCons (eBin .Add (eV 5) (eIx (eV 2) (eV 4))) lNil)))) sNext)) sNext) (sSeq (sIf (tAnd (tBl (eCmp .Eq (eV 9) (eC (.int 2)))) (tBl (eCmp .LtE (eBin .Add (eV 6) (eFn 205 (lCons (eIx (eV 2) (eV 4)) lNil))) (eBin .Pow (eC (.int 10)) (eC (.int 17)))))) (sSeq (sDrop (eMt [(4, 112)] (eV 0) (lCons (eV 3) (lCons (eV 7) (lCons (eV 4) lNil))))) (sSeq (sRet (eTup (lCons (eV 3) (lCons (eBin .Add (eBin .Add (eFn 206 (lCons (eV 5) (lCons (eV 7) lNil))) (eIx (eV 2) (eV 4))) (eFn 207 (lCons (eV 5) (lCons (eV 7) lNil)))) lNil)))) sNext)) sNext) (sSeq (sIf (tBl (eCmp .Lt (eV 9) (eC (.int 4)))) (sSeq (sDrop (eMt [(4, 113)] (eV 0) (lCons (eV 3) (lCons (eV 7) (lCons (eV 8) lNil))))) (sSeq (sRet (eTup (lCons (eV 3) (lCons (eBin .Add (eFn 206 (lCons (eV 5) (lCons (eV 7) lNil))) (eFn 207 (lCons (eV 5) (lCons (eV 8) lNil)))) lNil)))) sNext)) sNext) (sSeq (sAsg (eFn 204 (lCons (eV 1) (lCons (eC (.int 30)) lNil))) (gN 11)) (sSeq (sDrop (eMt [(4, 109)] (eV 0) (lCons (eV 3) (lCons (eV 11) lNil)))) (sSeq (sRet (eTup (lCons (eV 3) (lCons (eBin .Mult (eLst (lCons (eTup (lCons (eV 11) (lCons (eC (.int 1)) lNil))) lNil)) (eBi .int (lCons (eCmp .NotEq (eV 11) (eC (.str ""))) lNil))) lNil)))) sNext)))))))))))))))
def d_law_deed : FDef := ⟨3, 13, b_law_deed⟩
abbrev F_law : Nat := 211
/-- slots: script 0, house 1, known 2, name 3, past 4, ever 5, k 6, cell 7, stream 8, blocks 9, back 10, turn 11, number 12 -/
def b_law : TSt := sSeq (sAsg (eMk 4 103 lNil) (gN 1)) (sSeq (sAsg eDict0 (gN 2)) (sSeq (sFor (iVal (eC (.str "abc"))) (gN 3) (sSeq (sDrop (eMt [(4, 109)] (eV 1) (lCons (eV 3) (lCons (eC (.str "")) lNil)))) (sSeq (sSetIx (eV 2) (eV 3) (eLst lNil)) sNext))) (sSeq (sAsg (eLst (lCons (eV 2) lNil)) (gN 4)) (sSeq (sAsg (eLst lNil) (gN 5)) (sSeq (sFor (iEnm (eBin .Add (eSl (eV 0) oNone (oSome (eC (.int 20)))) (eLst (lCons (eC (.int 0)) (lCons (eC (.int 1)) (lCons (eC (.int 2)) (lCons (eC (.int 3)) (lCons (eC (.int 4)) lNil)))))))) (gTp [6, 7]) (sSeq (sAsg (eFn 202 (lCons (eLst (lCons (eV 7) (lCons (eV 6) lNil))) (lCons (eC (.int 0)) lNil))) (gN 8)) (sSeq (sAsg (eFn 210 (lCons (eV 1) (lCons (eV 8) (lCons (eV 2) lNil)))) (gTp [3, 9])) (sSeq (sAsg (eBi .dict (lCons (eV 2) lNil)) (gN 2)) (sSeq (sSetIx (eV 2) (eV 3) (eV 9)) (sSeq (sDrop (eBm .append (eV 4) (lCons (eV 2) lNil))) (sSeq (sDrop (eBm .append (eV 5) (lCons (eTup (lCons (eV 9) (lCons (eMt [(4, 106)] (eV 1) (lCons (eV 3) lNil)) lNil))) lNil))) (sSeq (sIf (tNot (tVal (eFn 209 (lCons (eV 1) (lCons (eV 9) (lCons (eMt [(4, 106)] (eV 1) (lCons (eV 3) lNil)) (lCons (eV 8) lNil))))))) (sSeq (sRet (eC (.bl false))) sNext) sNext) sNext)))))))) (sSeq (sAsg (eFn 202 (lCons (eV 0) (lCons (eC (.int 1)) lNil))) (gN 8)) (sSeq (sAsg (eFn 203 (lCons (eV 8) (lCons (eBi .len (lCons (eV 4) lNil)) lNil))) (gN 10)) (sSeq (sFor (iRng1 (eV 10)) (gN 11) (sSeq (sDrop (eMt [(4, 116)] (eV 1) lNil)) sNext)) (sSeq (sFor (iVal (eC (.str "abc"))) (gN 3) (sSeq (sIf (tNot (tVal (eFn 209 (lCons (eV 1) (lCons (eIx (eIx (eV 4) (eBin .Sub (eBin .Sub (eBi .len (lCons (eV 4) lNil)) (eC (.int 1))) (eV 10))) (eV 3)) (lCons (eMt [(4, 106)] (eV 1) (lCons (eV 3) lNil)) (lCons (eV 8) lNil))))))) (sSeq (sRet (eC (.bl false))) sNext) sNext) sNext)) (sSeq (sFor (iRng1 (eV 10)) (gN 11) (sSeq (sDrop (eMt [(4, 117)] (eV 1) lNil)) sNext)) (sSeq (sFor (iVal (eSl (eV 5) (oSome (eNeg (eC (.int 6)))) oNone)) (gTp [9, 12]) (sSeq (sIf (tNot (tVal (eFn 209 (lCons (eV 1) (lCons (eV 9) (lCons (eV 12) (lCons (eV 8) lNil))))))) (sSeq (sRet (eC (.bl false))) sNext) sNext) sNext)) (sSeq (sRet (eBi .all (lCons (eLc (iVal (eC (.str "abc"))) (gN 3) tYes (eFn 209 (lCons (eV 1) (lCons (eIx (eIx (eV 4) (eNeg (eC (.int 1)))) (eV 3)) (lCons (eMt [(4, 106)] (eV 1) (lCons (eV 3) lNil)) (lCons (eV 8) lNil))))) [3]) lNil))) sNext))))))))))))
def d_law : FDef := ⟨1, 13, b_law⟩
end SW
end

section
set_option Elab.async false
set_option linter.all false
set_option maxRecDepth 100000
set_option maxHeartbeats 4000000
namespace SW
open PySem L2
theorem all_cons {α : Type} {p : α → Prop} {a : α} {l : List α} (h : p a) (t : ∀ x ∈ l, p x) : ∀ x ∈ a :: l, p x := fun x hx => by
  rcases List.mem_cons.mp hx with rfl | hx
  · exact h
  · exact t x hx
theorem all_nil {α : Type} {p : α → Prop} : ∀ x ∈ ([] : List α), p x := fun x hx => (nomatch hx)
theorem all_app {α : Type} {p : α → Prop} {l m : List α} (h : ∀ x ∈ l, p x) (t : ∀ x ∈ m, p x) : ∀ x ∈ l ++ m, p x := fun x hx => (List.mem_append.mp hx).elim (h x) (t x)
def topS (i : Nat) : Stmt := PySem.Challenge.pw_skeinwood_k85_whole_long_house.main.body.getD i (.Pass ⟨0, 0, 0, 0⟩)
def e_wall : Ent := ⟨F_wall, ("_wall", none), "_wall", "_wall", topS 0, ["k"], ["k"], d_wall⟩
def e_is_plain : Ent := ⟨F_is_plain, ("is_plain", none), "is_plain", "is_plain", topS 14, ["thing"], ["thing", "sign"], d_is_plain⟩
def e_is_name : Ent := ⟨F_is_name, ("is_name", none), "is_name", "is_name", topS 15, ["thing"], ["thing", "sign"], d_is_name⟩
def e_ends_in : Ent := ⟨F_ends_in, ("ends_in", none), "ends_in", "ends_in", topS 16, ["plain"], ["plain"], d_ends_in⟩
def e_Shelf___init__ : Ent := ⟨F_Shelf___init__, ("Shelf", some "__init__"), "__init__", "Shelf.__init__", inClass (topS 20) 0, ["self"], ["self"], d_Shelf___init__⟩
def e_Shelf_want : Ent := ⟨F_Shelf_want, ("Shelf", some "want"), "want", "Shelf.want", inClass (topS 20) 1, ["self", "text"], ["self", "text"], d_Shelf_want⟩
def e_Shelf_want_piece : Ent := ⟨F_Shelf_want_piece, ("Shelf", some "want_piece"), "want_piece", "Shelf.want_piece", inClass (topS 20) 2, ["self", "number"], ["self", "number"], d_Shelf_want_piece⟩
def e_Shelf_many : Ent := ⟨F_Shelf_many, ("Shelf", some "many"), "many", "Shelf.many", inClass (topS 20) 3, ["self"], ["self"], d_Shelf_many⟩
def e_Shelf_piece : Ent := ⟨F_Shelf_piece, ("Shelf", some "piece"), "piece", "Shelf.piece", inClass (topS 20) 4, ["self", "number"], ["self", "number"], d_Shelf_piece⟩
def e_Shelf_signs : Ent := ⟨F_Shelf_signs, ("Shelf", some "signs"), "signs", "Shelf.signs", inClass (topS 20) 5, ["self", "text"], ["self", "text"], d_Shelf_signs⟩
def e_Shelf_ends : Ent := ⟨F_Shelf_ends, ("Shelf", some "ends"), "ends", "Shelf.ends", inClass (topS 20) 6, ["self", "text"], ["self", "text"], d_Shelf_ends⟩
def e_Shelf_leaves : Ent := ⟨F_Shelf_leaves, ("Shelf", some "leaves"), "leaves", "Shelf.leaves", inClass (topS 20) 7, ["self", "text"], ["self", "text"], d_Shelf_leaves⟩
def e_Shelf_height : Ent := ⟨F_Shelf_height, ("Shelf", some "height"), "height", "Shelf.height", inClass (topS 20) 8, ["self", "text"], ["self", "text"], d_Shelf_height⟩
def e_Shelf_first_leaf : Ent := ⟨F_Shelf_first_leaf, ("Shelf", some "first_leaf"), "first_leaf", "Shelf.first_leaf", inClass (topS 20) 9, ["self", "text"], ["self", "text"], d_Shelf_first_leaf⟩
def e_Shelf_last_leaf : Ent := ⟨F_Shelf_last_leaf, ("Shelf", some "last_leaf"), "last_leaf", "Shelf.last_leaf", inClass (topS 20) 10, ["self", "text"], ["self", "text"], d_Shelf_last_leaf⟩
def e_Shelf_laid : Ent := ⟨F_Shelf_laid, ("Shelf", some "laid"), "laid", "Shelf.laid", inClass (topS 20) 11, ["self", "piece", "signs", "ends", "leaves", "height"], ["self", "piece", "signs", "ends", "leaves", "height", "number"], d_Shelf_laid⟩
def e_Shelf_leaf : Ent := ⟨F_Shelf_leaf, ("Shelf", some "leaf"), "leaf", "Shelf.leaf", inClass (topS 20) 12, ["self", "plain"], ["self", "plain", "piece", "number"], d_Shelf_leaf⟩
def e_Shelf_fork : Ent := ⟨F_Shelf_fork, ("Shelf", some "fork"), "fork", "Shelf.fork", inClass (topS 20) 13, ["self", "one", "other"], ["self", "one", "other", "heights", "signs", "piece", "ends", "leaves", "number"], d_Shelf_fork⟩
def e_Shelf_is_loose : Ent := ⟨F_Shelf_is_loose, ("Shelf", some "is_loose"), "is_loose", "Shelf.is_loose", inClass (topS 20) 14, ["self", "one", "other"], ["self", "one", "other"], d_Shelf_is_loose⟩
def e_is_leaf : Ent := ⟨F_is_leaf, ("is_leaf", none), "is_leaf", "is_leaf", topS 23, ["shelf", "text"], ["shelf", "text"], d_is_leaf⟩
def e_parts_of : Ent := ⟨F_parts_of, ("parts_of", none), "parts_of", "parts_of", topS 24, ["shelf", "text"], ["shelf", "text", "word", "one", "other"], d_parts_of⟩
def e_turned_right : Ent := ⟨F_turned_right, ("turned_right", none), "turned_right", "turned_right", topS 25, ["shelf", "one", "other"], ["shelf", "one", "other", "inner", "outer", "left", "right"], d_turned_right⟩
def e_turned_left : Ent := ⟨F_turned_left, ("turned_left", none), "turned_left", "turned_left", topS 26, ["shelf", "one", "other"], ["shelf", "one", "other", "outer", "inner", "left", "right"], d_turned_left⟩
def e_levelled : Ent := ⟨F_levelled, ("levelled", none), "levelled", "levelled", topS 27, ["shelf", "one", "other"], ["shelf", "one", "other"], d_levelled⟩
def e_linked : Ent := ⟨F_linked, ("linked", none), "linked", "linked", topS 28, ["shelf", "one", "other"], ["shelf", "one", "other", "first", "last"], d_linked⟩
def e_without_last : Ent := ⟨F_without_last, ("without_last", none), "without_last", "without_last", topS 29, ["shelf", "text"], ["shelf", "text", "one", "other"], d_without_last⟩
def e_without_first : Ent := ⟨F_without_first, ("without_first", none), "without_first", "without_first", topS 30, ["shelf", "text"], ["shelf", "text", "one", "other"], d_without_first⟩
def e_leaf_text : Ent := ⟨F_leaf_text, ("leaf_text", none), "leaf_text", "leaf_text", topS 31, ["shelf", "number"], ["shelf", "number"], d_leaf_text⟩
def e_poured : Ent := ⟨F_poured, ("poured", none), "poured", "poured", topS 32, ["shelf", "one", "other"], ["shelf", "one", "other", "last", "first", "amid"], d_poured⟩
def e_joined : Ent := ⟨F_joined, ("joined", none), "joined", "joined", topS 33, ["shelf", "one", "other"], ["shelf", "one", "other"], d_joined⟩
def e_built_of : Ent := ⟨F_built_of, ("built_of", none), "built_of", "built_of", topS 34, ["shelf", "leaves"], ["shelf", "leaves", "half"], d_built_of⟩
def e_built : Ent := ⟨F_built, ("built", none), "built", "built", topS 35, ["shelf", "plain"], ["shelf", "plain", "leaves", "start"], d_built⟩
def e_repeated : Ent := ⟨F_repeated, ("repeated", none), "repeated", "repeated", topS 36, ["shelf", "text", "many"], ["shelf", "text", "many", "found", "twice"], d_repeated⟩
def e_want_stretch : Ent := ⟨F_want_stretch, ("want_stretch", none), "want_stretch", "want_stretch", topS 38, ["shelf", "text", "begin", "end"], ["shelf", "text", "begin", "end", "signs"], d_want_stretch⟩
def e_leaf_cut : Ent := ⟨F_leaf_cut, ("leaf_cut", none), "leaf_cut", "leaf_cut", topS 39, ["shelf", "leaf", "at"], ["shelf", "leaf", "at", "plain", "parts", "part"], d_leaf_cut⟩
def e_halves : Ent := ⟨F_halves, ("halves", none), "halves", "halves", topS 40, ["shelf", "text", "at"], ["shelf", "text", "at", "one", "other", "ahead", "left", "right"], d_halves⟩
def e_put_in : Ent := ⟨F_put_in, ("put_in", none), "put_in", "put_in", topS 41, ["shelf", "text", "at", "other"], ["shelf", "text", "at", "other", "signs", "left", "right"], d_put_in⟩
def e_taken_out : Ent := ⟨F_taken_out, ("taken_out", none), "taken_out", "taken_out", topS 42, ["shelf", "text", "begin", "end"], ["shelf", "text", "begin", "end", "left"], d_taken_out⟩
def e_House___init__ : Ent := ⟨F_House___init__, ("House", some "__init__"), "__init__", "House.__init__", inClass (topS 44) 0, ["self"], ["self"], d_House___init__⟩
def e_House_shelf : Ent := ⟨F_House_shelf, ("House", some "shelf"), "shelf", "House.shelf", inClass (topS 44) 1, ["self"], ["self"], d_House_shelf⟩
def e_House_text : Ent := ⟨F_House_text, ("House", some "text"), "text", "House.text", inClass (topS 44) 3, ["self", "name"], ["self", "name"], d_House_text⟩
def e_House_step : Ent := ⟨F_House_step, ("House", some "step"), "step", "House.step", inClass (topS 44) 4, ["self", "known"], ["self", "known"], d_House_step⟩
def e_House_given : Ent := ⟨F_House_given, ("House", some "given"), "given", "House.given", inClass (topS 44) 5, ["self", "name", "number"], ["self", "name", "number", "known"], d_House_given⟩
def e_House_give : Ent := ⟨F_House_give, ("House", some "give"), "give", "House.give", inClass (topS 44) 6, ["self", "name", "plain"], ["self", "name", "plain"], d_House_give⟩
def e_House_copy_of : Ent := ⟨F_House_copy_of, ("House", some "copy_of"), "copy_of", "House.copy_of", inClass (topS 44) 7, ["self", "name", "other"], ["self", "name", "other"], d_House_copy_of⟩
def e_House_join_to : Ent := ⟨F_House_join_to, ("House", some "join_to"), "join_to", "House.join_to", inClass (topS 44) 8, ["self", "name", "other"], ["self", "name", "other"], d_House_join_to⟩
def e_House_put_into : Ent := ⟨F_House_put_into, ("House", some "put_into"), "put_into", "House.put_into", inClass (topS 44) 9, ["self", "name", "at", "other"], ["self", "name", "at", "other"], d_House_put_into⟩
def e_House_take_from : Ent := ⟨F_House_take_from, ("House", some "take_from"), "take_from", "House.take_from", inClass (topS 44) 10, ["self", "name", "begin", "end"], ["self", "name", "begin", "end"], d_House_take_from⟩
def e_House_repeat : Ent := ⟨F_House_repeat, ("House", some "repeat"), "repeat", "House.repeat", inClass (topS 44) 11, ["self", "name", "many"], ["self", "name", "many"], d_House_repeat⟩
def e_House_drop : Ent := ⟨F_House_drop, ("House", some "drop"), "drop", "House.drop", inClass (topS 44) 12, ["self", "name"], ["self", "name"], d_House_drop⟩
def e_House_back : Ent := ⟨F_House_back, ("House", some "back"), "back", "House.back", inClass (topS 44) 13, ["self"], ["self"], d_House_back⟩
def e_House_again : Ent := ⟨F_House_again, ("House", some "again"), "again", "House.again", inClass (topS 44) 14, ["self"], ["self"], d_House_again⟩
def e_gathered : Ent := ⟨F_gathered, ("gathered", none), "gathered", "gathered", topS 47, ["shelf", "text", "begin", "end"], ["shelf", "text", "begin", "end", "word", "one", "other", "ahead"], d_gathered⟩
def e_stretch_of : Ent := ⟨F_stretch_of, ("stretch_of", none), "stretch_of", "stretch_of", topS 48, ["shelf", "text", "begin", "end"], ["shelf", "text", "begin", "end", "signs"], d_stretch_of⟩
def e_law_mixed : Ent := ⟨F_law_mixed, ("_law_mixed", none), "_law_mixed", "_law_mixed", topS 50, ["cell", "k"], ["cell", "k", "one"], d_law_mixed⟩
def e_law_stream : Ent := ⟨F_law_stream, ("_law_stream", none), "_law_stream", "_law_stream", topS 51, ["script", "k"], ["script", "k", "cell", "j", "found", "one"], d_law_stream⟩
def e_law_take : Ent := ⟨F_law_take, ("_law_take", none), "_law_take", "_law_take", topS 52, ["stream", "many"], ["stream", "many", "digit"], d_law_take⟩
def e_law_plain : Ent := ⟨F_law_plain, ("_law_plain", none), "_law_plain", "_law_plain", topS 53, ["stream", "most"], ["stream", "most", "kinds", "found", "k"], d_law_plain⟩
def e_law_long : Ent := ⟨F_law_long, ("_law_long", none), "_law_long", "_law_long", topS 54, ["blocks"], ["blocks", "plain", "many"], d_law_long⟩
def e_law_first : Ent := ⟨F_law_first, ("_law_first", none), "_law_first", "_law_first", topS 55, ["blocks", "at"], ["blocks", "at", "found", "plain", "many", "full", "block"], d_law_first⟩
def e_law_rest : Ent := ⟨F_law_rest, ("_law_rest", none), "_law_rest", "_law_rest", topS 56, ["blocks", "at"], ["blocks", "at", "found", "plain", "many", "full", "block"], d_law_rest⟩
def e_law_signs : Ent := ⟨F_law_signs, ("_law_signs", none), "_law_signs", "_law_signs", topS 57, ["blocks", "begin", "end"], ["blocks", "begin", "end", "found", "plain", "many"], d_law_signs⟩
def e_law_same : Ent := ⟨F_law_same, ("_law_same", none), "_law_same", "_law_same", topS 58, ["house", "blocks", "number", "stream"], ["house", "blocks", "number", "stream", "signs", "place", "end"], d_law_same⟩
def e_law_deed : Ent := ⟨F_law_deed, ("_law_deed", none), "_law_deed", "_law_deed", topS 59, ["house", "stream", "known"], ["house", "stream", "known", "name", "other", "blocks", "signs", "begin", "end", "kind", "many", "plain", "more"], d_law_deed⟩
def e_law : Ent := ⟨F_law, ("law", none), "law", "law", topS 60, ["script"], ["script", "house", "known", "name", "past", "ever", "k", "cell", "stream", "blocks", "back", "turn", "number"], d_law⟩
def ents : List Ent := ([e_wall, e_is_plain, e_is_name, e_ends_in, e_Shelf___init__, e_Shelf_want, e_Shelf_want_piece, e_Shelf_many, e_Shelf_piece, e_Shelf_signs, e_Shelf_ends, e_Shelf_leaves, e_Shelf_height, e_Shelf_first_leaf, e_Shelf_last_leaf, e_Shelf_laid] : List Ent) ++ ([e_Shelf_leaf, e_Shelf_fork, e_Shelf_is_loose, e_is_leaf, e_parts_of, e_turned_right, e_turned_left, e_levelled, e_linked, e_without_last, e_without_first, e_leaf_text, e_poured, e_joined, e_built_of, e_built] : List Ent) ++ ([e_repeated, e_want_stretch, e_leaf_cut, e_halves, e_put_in, e_taken_out, e_House___init__, e_House_shelf, e_House_text, e_House_step, e_House_given, e_House_give, e_House_copy_of, e_House_join_to, e_House_put_into, e_House_take_from] : List Ent) ++ ([e_House_repeat, e_House_drop, e_House_back, e_House_again, e_gathered, e_stretch_of, e_law_mixed, e_law_stream, e_law_take, e_law_plain, e_law_long, e_law_first, e_law_rest, e_law_signs, e_law_same, e_law_deed] : List Ent) ++ ([e_law] : List Ent)
def tab : Tab where
  bis := ["all", "dict", "enumerate", "int", "isinstance", "len", "max", "min", "range", "sorted", "str", "sum"]
  cst := [("LETTERS", .inr "abcdefghijklmnopqrstuvwxyz"), ("LONGEST_NAME", .inl 8), ("MOST_IN_LEAF", .inl 8), ("MOST_SIGNS", .inl 1000000000000000000), ("MOST_WRITTEN", .inl 10000), ("MOST_READ", .inl 10000)]
  fns := ([("_wall", F_wall), ("is_plain", F_is_plain), ("is_name", F_is_name), ("ends_in", F_ends_in), ("is_leaf", F_is_leaf), ("parts_of", F_parts_of), ("turned_right", F_turned_right), ("turned_left", F_turned_left), ("levelled", F_levelled), ("linked", F_linked), ("without_last", F_without_last), ("without_first", F_without_first), ("leaf_text", F_leaf_text), ("poured", F_poured), ("joined", F_joined), ("built_of", F_built_of)] : List (Str × Nat)) ++ ([("built", F_built), ("repeated", F_repeated), ("want_stretch", F_want_stretch), ("leaf_cut", F_leaf_cut), ("halves", F_halves), ("put_in", F_put_in), ("taken_out", F_taken_out), ("gathered", F_gathered), ("stretch_of", F_stretch_of), ("_law_mixed", F_law_mixed), ("_law_stream", F_law_stream), ("_law_take", F_law_take), ("_law_plain", F_law_plain), ("_law_long", F_law_long), ("_law_first", F_law_first), ("_law_rest", F_law_rest)] : List (Str × Nat)) ++ ([("_law_signs", F_law_signs), ("_law_same", F_law_same), ("_law_deed", F_law_deed), ("law", F_law)] : List (Str × Nat))
  cls := [("Shelf", 0, F_Shelf___init__), ("House", 4, F_House___init__)]
  mtd := ([("Shelf", "__init__", F_Shelf___init__), ("Shelf", "want", F_Shelf_want), ("Shelf", "want_piece", F_Shelf_want_piece), ("Shelf", "many", F_Shelf_many), ("Shelf", "piece", F_Shelf_piece), ("Shelf", "signs", F_Shelf_signs), ("Shelf", "ends", F_Shelf_ends), ("Shelf", "leaves", F_Shelf_leaves), ("Shelf", "height", F_Shelf_height), ("Shelf", "first_leaf", F_Shelf_first_leaf), ("Shelf", "last_leaf", F_Shelf_last_leaf), ("Shelf", "laid", F_Shelf_laid), ("Shelf", "leaf", F_Shelf_leaf), ("Shelf", "fork", F_Shelf_fork), ("Shelf", "is_loose", F_Shelf_is_loose), ("House", "__init__", F_House___init__)] : List (Str × Str × Nat)) ++ ([("House", "shelf", F_House_shelf), ("House", "text", F_House_text), ("House", "step", F_House_step), ("House", "given", F_House_given), ("House", "give", F_House_give), ("House", "copy_of", F_House_copy_of), ("House", "join_to", F_House_join_to), ("House", "put_into", F_House_put_into), ("House", "take_from", F_House_take_from), ("House", "repeat", F_House_repeat), ("House", "drop", F_House_drop), ("House", "back", F_House_back), ("House", "again", F_House_again)] : List (Str × Str × Nat))
  mts := ([("again", [(4, 117)]), ("back", [(4, 116)]), ("copy_of", [(4, 110)]), ("drop", [(4, 115)]), ("ends", [(0, 15)]), ("first_leaf", [(0, 18)]), ("fork", [(0, 22)]), ("give", [(4, 109)]), ("given", [(4, 108)]), ("height", [(0, 17)]), ("is_loose", [(0, 23)]), ("join_to", [(4, 111)]), ("laid", [(0, 20)]), ("last_leaf", [(0, 19)]), ("leaf", [(0, 21)]), ("leaves", [(0, 16)])] : List (Str × List (Nat × Nat))) ++ ([("many", [(0, 12)]), ("piece", [(0, 13)]), ("put_into", [(4, 112)]), ("repeat", [(4, 114)]), ("shelf", [(4, 104)]), ("signs", [(0, 14)]), ("step", [(4, 107)]), ("take_from", [(4, 113)]), ("text", [(4, 106)]), ("want", [(0, 10)]), ("want_piece", [(0, 11)])] : List (Str × List (Nat × Nat)))
  exc := [("SkeinError", 0), ("NoText", 1), ("NoPiece", 2), ("Loose", 3), ("Unlevel", 4), ("TooLong", 5), ("NoPlace", 6), ("NoName", 7), ("NothingDone", 8), ("Torn", 9), ("NoLine", 10)]
theorem eo_wall : EntOk tab e_wall := ⟨by kernel_rfl, rfl, rfl, ⟨rfl, rfl, rfl, by decide +kernel, rfl, by decide +kernel, by decide +kernel⟩, fun _ _ _ _ _ _ us hl => match us, hl with | [_], _ => rfl⟩
theorem eo_is_plain : EntOk tab e_is_plain := ⟨by kernel_rfl, rfl, rfl, ⟨rfl, rfl, rfl, by decide +kernel, rfl, by decide +kernel, by decide +kernel⟩, fun _ _ _ _ _ _ us hl => match us, hl with | [_], _ => rfl⟩
theorem eo_is_name : EntOk tab e_is_name := ⟨by kernel_rfl, rfl, rfl, ⟨rfl, rfl, rfl, by decide +kernel, rfl, by decide +kernel, by decide +kernel⟩, fun _ _ _ _ _ _ us hl => match us, hl with | [_], _ => rfl⟩
theorem eo_ends_in : EntOk tab e_ends_in := ⟨by kernel_rfl, rfl, rfl, ⟨rfl, rfl, rfl, by decide +kernel, rfl, by decide +kernel, by decide +kernel⟩, fun _ _ _ _ _ _ us hl => match us, hl with | [_], _ => rfl⟩
theorem eo_Shelf___init__ : EntOk tab e_Shelf___init__ := ⟨by kernel_rfl, rfl, rfl, ⟨rfl, rfl, rfl, by decide +kernel, rfl, by decide +kernel, by decide +kernel⟩, fun _ _ _ _ _ _ us hl => match us, hl with | [_], _ => rfl⟩
theorem eo_Shelf_want : EntOk tab e_Shelf_want := ⟨by kernel_rfl, rfl, rfl, ⟨rfl, rfl, rfl, by decide +kernel, rfl, by decide +kernel, by decide +kernel⟩, fun _ _ _ _ _ _ us hl => match us, hl with | [_, _], _ => rfl⟩
theorem eo_Shelf_want_piece : EntOk tab e_Shelf_want_piece := ⟨by kernel_rfl, rfl, rfl, ⟨rfl, rfl, rfl, by decide +kernel, rfl, by decide +kernel, by decide +kernel⟩, fun _ _ _ _ _ _ us hl => match us, hl with | [_, _], _ => rfl⟩
theorem eo_Shelf_many : EntOk tab e_Shelf_many := ⟨by kernel_rfl, rfl, rfl, ⟨rfl, rfl, rfl, by decide +kernel, rfl, by decide +kernel, by decide +kernel⟩, fun _ _ _ _ _ _ us hl => match us, hl with | [_], _ => rfl⟩
theorem eo_Shelf_piece : EntOk tab e_Shelf_piece := ⟨by kernel_rfl, rfl, rfl, ⟨rfl, rfl, rfl, by decide +kernel, rfl, by decide +kernel, by decide +kernel⟩, fun _ _ _ _ _ _ us hl => match us, hl with | [_, _], _ => rfl⟩
theorem eo_Shelf_signs : EntOk tab e_Shelf_signs := ⟨by kernel_rfl, rfl, rfl, ⟨rfl, rfl, rfl, by decide +kernel, rfl, by decide +kernel, by decide +kernel⟩, fun _ _ _ _ _ _ us hl => match us, hl with | [_, _], _ => rfl⟩
theorem eo_Shelf_ends : EntOk tab e_Shelf_ends := ⟨by kernel_rfl, rfl, rfl, ⟨rfl, rfl, rfl, by decide +kernel, rfl, by decide +kernel, by decide +kernel⟩, fun _ _ _ _ _ _ us hl => match us, hl with | [_, _], _ => rfl⟩
theorem eo_Shelf_leaves : EntOk tab e_Shelf_leaves := ⟨by kernel_rfl, rfl, rfl, ⟨rfl, rfl, rfl, by decide +kernel, rfl, by decide +kernel, by decide +kernel⟩, fun _ _ _ _ _ _ us hl => match us, hl with | [_, _], _ => rfl⟩
theorem eo_Shelf_height : EntOk tab e_Shelf_height := ⟨by kernel_rfl, rfl, rfl, ⟨rfl, rfl, rfl, by decide +kernel, rfl, by decide +kernel, by decide +kernel⟩, fun _ _ _ _ _ _ us hl => match us, hl with | [_, _], _ => rfl⟩
theorem eo_Shelf_first_leaf : EntOk tab e_Shelf_first_leaf := ⟨by kernel_rfl, rfl, rfl, ⟨rfl, rfl, rfl, by decide +kernel, rfl, by decide +kernel, by decide +kernel⟩, fun _ _ _ _ _ _ us hl => match us, hl with | [_, _], _ => rfl⟩
theorem eo_Shelf_last_leaf : EntOk tab e_Shelf_last_leaf := ⟨by kernel_rfl, rfl, rfl, ⟨rfl, rfl, rfl, by decide +kernel, rfl, by decide +kernel, by decide +kernel⟩, fun _ _ _ _ _ _ us hl => match us, hl with | [_, _], _ => rfl⟩
theorem eo_Shelf_laid : EntOk tab e_Shelf_laid := ⟨by kernel_rfl, rfl, rfl, ⟨rfl, rfl, rfl, by decide +kernel, rfl, by decide +kernel, by decide +kernel⟩, fun _ _ _ _ _ _ us hl => match us, hl with | [_, _, _, _, _, _], _ => rfl⟩
theorem eo_Shelf_leaf : EntOk tab e_Shelf_leaf := ⟨by kernel_rfl, rfl, rfl, ⟨rfl, rfl, rfl, by decide +kernel, rfl, by decide +kernel, by decide +kernel⟩, fun _ _ _ _ _ _ us hl => match us, hl with | [_, _], _ => rfl⟩
theorem eo_Shelf_fork : EntOk tab e_Shelf_fork := ⟨by kernel_rfl, rfl, rfl, ⟨rfl, rfl, rfl, by decide +kernel, rfl, by decide +kernel, by decide +kernel⟩, fun _ _ _ _ _ _ us hl => match us, hl with | [_, _, _], _ => rfl⟩
theorem eo_Shelf_is_loose : EntOk tab e_Shelf_is_loose := ⟨by kernel_rfl, rfl, rfl, ⟨rfl, rfl, rfl, by decide +kernel, rfl, by decide +kernel, by decide +kernel⟩, fun _ _ _ _ _ _ us hl => match us, hl with | [_, _, _], _ => rfl⟩
theorem eo_is_leaf : EntOk tab e_is_leaf := ⟨by kernel_rfl, rfl, rfl, ⟨rfl, rfl, rfl, by decide +kernel, rfl, by decide +kernel, by decide +kernel⟩, fun _ _ _ _ _ _ us hl => match us, hl with | [_, _], _ => rfl⟩
theorem eo_parts_of : EntOk tab e_parts_of := ⟨by kernel_rfl, rfl, rfl, ⟨rfl, rfl, rfl, by decide +kernel, rfl, by decide +kernel, by decide +kernel⟩, fun _ _ _ _ _ _ us hl => match us, hl with | [_, _], _ => rfl⟩
theorem eo_turned_right : EntOk tab e_turned_right := ⟨by kernel_rfl, rfl, rfl, ⟨rfl, rfl, rfl, by decide +kernel, rfl, by decide +kernel, by decide +kernel⟩, fun _ _ _ _ _ _ us hl => match us, hl with | [_, _, _], _ => rfl⟩
theorem eo_turned_left : EntOk tab e_turned_left := ⟨by kernel_rfl, rfl, rfl, ⟨rfl, rfl, rfl, by decide +kernel, rfl, by decide +kernel, by decide +kernel⟩, fun _ _ _ _ _ _ us hl => match us, hl with | [_, _, _], _ => rfl⟩
theorem eo_levelled : EntOk tab e_levelled := ⟨by kernel_rfl, rfl, rfl, ⟨rfl, rfl, rfl, by decide +kernel, rfl, by decide +kernel, by decide +kernel⟩, fun _ _ _ _ _ _ us hl => match us, hl with | [_, _, _], _ => rfl⟩
theorem eo_linked : EntOk tab e_linked := ⟨by kernel_rfl, rfl, rfl, ⟨rfl, rfl, rfl, by decide +kernel, rfl, by decide +kernel, by decide +kernel⟩, fun _ _ _ _ _ _ us hl => match us, hl with | [_, _, _], _ => rfl⟩
theorem eo_without_last : EntOk tab e_without_last := ⟨by kernel_rfl, rfl, rfl, ⟨rfl, rfl, rfl, by decide +kernel, rfl, by decide +kernel, by decide +kernel⟩, fun _ _ _ _ _ _ us hl => match us, hl with | [_, _], _ => rfl⟩
theorem eo_without_first : EntOk tab e_without_first := ⟨by kernel_rfl, rfl, rfl, ⟨rfl, rfl, rfl, by decide +kernel, rfl, by decide +kernel, by decide +kernel⟩, fun _ _ _ _ _ _ us hl => match us, hl with | [_, _], _ => rfl⟩
theorem eo_leaf_text : EntOk tab e_leaf_text := ⟨by kernel_rfl, rfl, rfl, ⟨rfl, rfl, rfl, by decide +kernel, rfl, by decide +kernel, by decide +kernel⟩, fun _ _ _ _ _ _ us hl => match us, hl with | [_, _], _ => rfl⟩
theorem eo_poured : EntOk tab e_poured := ⟨by kernel_rfl, rfl, rfl, ⟨rfl, rfl, rfl, by decide +kernel, rfl, by decide +kernel, by decide +kernel⟩, fun _ _ _ _ _ _ us hl => match us, hl with | [_, _, _], _ => rfl⟩
theorem eo_joined : EntOk tab e_joined := ⟨by kernel_rfl, rfl, rfl, ⟨rfl, rfl, rfl, by decide +kernel, rfl, by decide +kernel, by decide +kernel⟩, fun _ _ _ _ _ _ us hl => match us, hl with | [_, _, _], _ => rfl⟩
theorem eo_built_of : EntOk tab e_built_of := ⟨by kernel_rfl, rfl, rfl, ⟨rfl, rfl, rfl, by decide +kernel, rfl, by decide +kernel, by decide +kernel⟩, fun _ _ _ _ _ _ us hl => match us, hl with | [_, _], _ => rfl⟩
theorem eo_built : EntOk tab e_built := ⟨by kernel_rfl, rfl, rfl, ⟨rfl, rfl, rfl, by decide +kernel, rfl, by decide +kernel, by decide +kernel⟩, fun _ _ _ _ _ _ us hl => match us, hl with | [_, _], _ => rfl⟩
theorem eo_repeated : EntOk tab e_repeated := ⟨by kernel_rfl, rfl, rfl, ⟨rfl, rfl, rfl, by decide +kernel, rfl, by decide +kernel, by decide +kernel⟩, fun _ _ _ _ _ _ us hl => match us, hl with | [_, _, _], _ => rfl⟩
theorem eo_want_stretch : EntOk tab e_want_stretch := ⟨by kernel_rfl, rfl, rfl, ⟨rfl, rfl, rfl, by decide +kernel, rfl, by decide +kernel, by decide +kernel⟩, fun _ _ _ _ _ _ us hl => match us, hl with | [_, _, _, _], _ => rfl⟩
theorem eo_leaf_cut : EntOk tab e_leaf_cut := ⟨by kernel_rfl, rfl, rfl, ⟨rfl, rfl, rfl, by decide +kernel, rfl, by decide +kernel, by decide +kernel⟩, fun _ _ _ _ _ _ us hl => match us, hl with | [_, _, _], _ => rfl⟩
theorem eo_halves : EntOk tab e_halves := ⟨by kernel_rfl, rfl, rfl, ⟨rfl, rfl, rfl, by decide +kernel, rfl, by decide +kernel, by decide +kernel⟩, fun _ _ _ _ _ _ us hl => match us, hl with | [_, _, _], _ => rfl⟩
theorem eo_put_in : EntOk tab e_put_in := ⟨by kernel_rfl, rfl, rfl, ⟨rfl, rfl, rfl, by decide +kernel, rfl, by decide +kernel, by decide +kernel⟩, fun _ _ _ _ _ _ us hl => match us, hl with | [_, _, _, _], _ => rfl⟩
theorem eo_taken_out : EntOk tab e_taken_out := ⟨by kernel_rfl, rfl, rfl, ⟨rfl, rfl, rfl, by decide +kernel, rfl, by decide +kernel, by decide +kernel⟩, fun _ _ _ _ _ _ us hl => match us, hl with | [_, _, _, _], _ => rfl⟩
theorem eo_House___init__ : EntOk tab e_House___init__ := ⟨by kernel_rfl, rfl, rfl, ⟨rfl, rfl, rfl, by decide +kernel, rfl, by decide +kernel, by decide +kernel⟩, fun _ _ _ _ _ _ us hl => match us, hl with | [_], _ => rfl⟩
theorem eo_House_shelf : EntOk tab e_House_shelf := ⟨by kernel_rfl, rfl, rfl, ⟨rfl, rfl, rfl, by decide +kernel, rfl, by decide +kernel, by decide +kernel⟩, fun _ _ _ _ _ _ us hl => match us, hl with | [_], _ => rfl⟩
theorem eo_House_text : EntOk tab e_House_text := ⟨by kernel_rfl, rfl, rfl, ⟨rfl, rfl, rfl, by decide +kernel, rfl, by decide +kernel, by decide +kernel⟩, fun _ _ _ _ _ _ us hl => match us, hl with | [_, _], _ => rfl⟩
theorem eo_House_step : EntOk tab e_House_step := ⟨by kernel_rfl, rfl, rfl, ⟨rfl, rfl, rfl, by decide +kernel, rfl, by decide +kernel, by decide +kernel⟩, fun _ _ _ _ _ _ us hl => match us, hl with | [_, _], _ => rfl⟩
theorem eo_House_given : EntOk tab e_House_given := ⟨by kernel_rfl, rfl, rfl, ⟨rfl, rfl, rfl, by decide +kernel, rfl, by decide +kernel, by decide +kernel⟩, fun _ _ _ _ _ _ us hl => match us, hl with | [_, _, _], _ => rfl⟩
theorem eo_House_give : EntOk tab e_House_give := ⟨by kernel_rfl, rfl, rfl, ⟨rfl, rfl, rfl, by decide +kernel, rfl, by decide +kernel, by decide +kernel⟩, fun _ _ _ _ _ _ us hl => match us, hl with | [_, _, _], _ => rfl⟩
theorem eo_House_copy_of : EntOk tab e_House_copy_of := ⟨by kernel_rfl, rfl, rfl, ⟨rfl, rfl, rfl, by decide +kernel, rfl, by decide +kernel, by decide +kernel⟩, fun _ _ _ _ _ _ us hl => match us, hl with | [_, _, _], _ => rfl⟩
theorem eo_House_join_to : EntOk tab e_House_join_to := ⟨by kernel_rfl, rfl, rfl, ⟨rfl, rfl, rfl, by decide +kernel, rfl, by decide +kernel, by decide +kernel⟩, fun _ _ _ _ _ _ us hl => match us, hl with | [_, _, _], _ => rfl⟩
theorem eo_House_put_into : EntOk tab e_House_put_into := ⟨by kernel_rfl, rfl, rfl, ⟨rfl, rfl, rfl, by decide +kernel, rfl, by decide +kernel, by decide +kernel⟩, fun _ _ _ _ _ _ us hl => match us, hl with | [_, _, _, _], _ => rfl⟩
theorem eo_House_take_from : EntOk tab e_House_take_from := ⟨by kernel_rfl, rfl, rfl, ⟨rfl, rfl, rfl, by decide +kernel, rfl, by decide +kernel, by decide +kernel⟩, fun _ _ _ _ _ _ us hl => match us, hl with | [_, _, _, _], _ => rfl⟩
theorem eo_House_repeat : EntOk tab e_House_repeat := ⟨by kernel_rfl, rfl, rfl, ⟨rfl, rfl, rfl, by decide +kernel, rfl, by decide +kernel, by decide +kernel⟩, fun _ _ _ _ _ _ us hl => match us, hl with | [_, _, _], _ => rfl⟩
theorem eo_House_drop : EntOk tab e_House_drop := ⟨by kernel_rfl, rfl, rfl, ⟨rfl, rfl, rfl, by decide +kernel, rfl, by decide +kernel, by decide +kernel⟩, fun _ _ _ _ _ _ us hl => match us, hl with | [_, _], _ => rfl⟩
theorem eo_House_back : EntOk tab e_House_back := ⟨by kernel_rfl, rfl, rfl, ⟨rfl, rfl, rfl, by decide +kernel, rfl, by decide +kernel, by decide +kernel⟩, fun _ _ _ _ _ _ us hl => match us, hl with | [_], _ => rfl⟩
theorem eo_House_again : EntOk tab e_House_again := ⟨by kernel_rfl, rfl, rfl, ⟨rfl, rfl, rfl, by decide +kernel, rfl, by decide +kernel, by decide +kernel⟩, fun _ _ _ _ _ _ us hl => match us, hl with | [_], _ => rfl⟩
theorem eo_gathered : EntOk tab e_gathered := ⟨by kernel_rfl, rfl, rfl, ⟨rfl, rfl, rfl, by decide +kernel, rfl, by decide +kernel, by decide +kernel⟩, fun _ _ _ _ _ _ us hl => match us, hl with | [_, _, _, _], _ => rfl⟩
theorem eo_stretch_of : EntOk tab e_stretch_of := ⟨by kernel_rfl, rfl, rfl, ⟨rfl, rfl, rfl, by decide +kernel, rfl, by decide +kernel, by decide +kernel⟩, fun _ _ _ _ _ _ us hl => match us, hl with | [_, _, _, _], _ => rfl⟩
theorem eo_law_mixed : EntOk tab e_law_mixed := ⟨by kernel_rfl, rfl, rfl, ⟨rfl, rfl, rfl, by decide +kernel, rfl, by decide +kernel, by decide +kernel⟩, fun _ _ _ _ _ _ us hl => match us, hl with | [_, _], _ => rfl⟩
theorem eo_law_stream : EntOk tab e_law_stream := ⟨by kernel_rfl, rfl, rfl, ⟨rfl, rfl, rfl, by decide +kernel, rfl, by decide +kernel, by decide +kernel⟩, fun _ _ _ _ _ _ us hl => match us, hl with | [_, _], _ => rfl⟩
theorem eo_law_take : EntOk tab e_law_take := ⟨by kernel_rfl, rfl, rfl, ⟨rfl, rfl, rfl, by decide +kernel, rfl, by decide +kernel, by decide +kernel⟩, fun _ _ _ _ _ _ us hl => match us, hl with | [_, _], _ => rfl⟩
theorem eo_law_plain : EntOk tab e_law_plain := ⟨by kernel_rfl, rfl, rfl, ⟨rfl, rfl, rfl, by decide +kernel, rfl, by decide +kernel, by decide +kernel⟩, fun _ _ _ _ _ _ us hl => match us, hl with | [_, _], _ => rfl⟩
theorem eo_law_long : EntOk tab e_law_long := ⟨by kernel_rfl, rfl, rfl, ⟨rfl, rfl, rfl, by decide +kernel, rfl, by decide +kernel, by decide +kernel⟩, fun _ _ _ _ _ _ us hl => match us, hl with | [_], _ => rfl⟩
theorem eo_law_first : EntOk tab e_law_first := ⟨by kernel_rfl, rfl, rfl, ⟨rfl, rfl, rfl, by decide +kernel, rfl, by decide +kernel, by decide +kernel⟩, fun _ _ _ _ _ _ us hl => match us, hl with | [_, _], _ => rfl⟩
theorem eo_law_rest : EntOk tab e_law_rest := ⟨by kernel_rfl, rfl, rfl, ⟨rfl, rfl, rfl, by decide +kernel, rfl, by decide +kernel, by decide +kernel⟩, fun _ _ _ _ _ _ us hl => match us, hl with | [_, _], _ => rfl⟩
theorem eo_law_signs : EntOk tab e_law_signs := ⟨by kernel_rfl, rfl, rfl, ⟨rfl, rfl, rfl, by decide +kernel, rfl, by decide +kernel, by decide +kernel⟩, fun _ _ _ _ _ _ us hl => match us, hl with | [_, _, _], _ => rfl⟩
theorem eo_law_same : EntOk tab e_law_same := ⟨by kernel_rfl, rfl, rfl, ⟨rfl, rfl, rfl, by decide +kernel, rfl, by decide +kernel, by decide +kernel⟩, fun _ _ _ _ _ _ us hl => match us, hl with | [_, _, _, _], _ => rfl⟩
theorem eo_law_deed : EntOk tab e_law_deed := ⟨by kernel_rfl, rfl, rfl, ⟨rfl, rfl, rfl, by decide +kernel, rfl, by decide +kernel, by decide +kernel⟩, fun _ _ _ _ _ _ us hl => match us, hl with | [_, _, _], _ => rfl⟩
theorem eo_law : EntOk tab e_law := ⟨by kernel_rfl, rfl, rfl, ⟨rfl, rfl, rfl, by decide +kernel, rfl, by decide +kernel, by decide +kernel⟩, fun _ _ _ _ _ _ us hl => match us, hl with | [_], _ => rfl⟩
theorem ents_ok : ∀ e ∈ ents, EntOk tab e := (all_app (all_app (all_app (all_app (all_cons eo_wall (all_cons eo_is_plain (all_cons eo_is_name (all_cons eo_ends_in (all_cons eo_Shelf___init__ (all_cons eo_Shelf_want (all_cons eo_Shelf_want_piece (all_cons eo_Shelf_many (all_cons eo_Shelf_piece (all_cons eo_Shelf_signs (all_cons eo_Shelf_ends (all_cons eo_Shelf_leaves (all_cons eo_Shelf_height (all_cons eo_Shelf_first_leaf (all_cons eo_Shelf_last_leaf (all_cons eo_Shelf_laid (all_nil))))))))))))))))) (all_cons eo_Shelf_leaf (all_cons eo_Shelf_fork (all_cons eo_Shelf_is_loose (all_cons eo_is_leaf (all_cons eo_parts_of (all_cons eo_turned_right (all_cons eo_turned_left (all_cons eo_levelled (all_cons eo_linked (all_cons eo_without_last (all_cons eo_without_first (all_cons eo_leaf_text (all_cons eo_poured (all_cons eo_joined (all_cons eo_built_of (all_cons eo_built (all_nil)))))))))))))))))) (all_cons eo_repeated (all_cons eo_want_stretch (all_cons eo_leaf_cut (all_cons eo_halves (all_cons eo_put_in (all_cons eo_taken_out (all_cons eo_House___init__ (all_cons eo_House_shelf (all_cons eo_House_text (all_cons eo_House_step (all_cons eo_House_given (all_cons eo_House_give (all_cons eo_House_copy_of (all_cons eo_House_join_to (all_cons eo_House_put_into (all_cons eo_House_take_from (all_nil)))))))))))))))))) (all_cons eo_House_repeat (all_cons eo_House_drop (all_cons eo_House_back (all_cons eo_House_again (all_cons eo_gathered (all_cons eo_stretch_of (all_cons eo_law_mixed (all_cons eo_law_stream (all_cons eo_law_take (all_cons eo_law_plain (all_cons eo_law_long (all_cons eo_law_first (all_cons eo_law_rest (all_cons eo_law_signs (all_cons eo_law_same (all_cons eo_law_deed (all_nil)))))))))))))))))) (all_cons eo_law (all_nil)))
end SW
end

section
set_option Elab.async false
set_option linter.all false
set_option maxRecDepth 100000
/-! The head's Hook, with a cheaper walk to the objects (a mask of bits says which were met), and its run in parts. -/
namespace SW
open PySem PySem.Spec PyProof.Rows L2
/-- those that the mask does not hold; the mask with them -/
def newA : List Addr → Nat → List Addr → List Addr × Nat
  | [], m, acc => (acc.reverse, m)
  | a :: r, m, acc => match Nat.beq (Nat.land (Nat.shiftRight m a) 1) 0 with
    | true => newA r (Nat.lor m (Nat.shiftLeft 1 a)) (a :: acc)
    | false => newA r m acc
/-- n levels, each object opened once -/
def lvA (g : Addr → Option Obj) : Nat → List Addr → Nat → List Addr
  | 0, fr, _ => fr
  | n + 1, fr, m => match newA (fr.flatMap fun a => match g a with
    | some o => He.refsD o
    | none => []) m [] with
    | (nx, m') => fr ++ lvA g n nx m'
def asB (g : Addr → Option Obj) (n : Nat) : List Addr := lvA g n [mainGlobals] (Nat.shiftLeft 1 mainGlobals)
def obsB (n : Nat) (fa : List He.Fa) (fn : List He.DefD) (g : Addr → Option Obj) : He.AlD := He.obsD fa fn (He.frG g (asB g n))
def hookB (n : Nat) (fa : List He.Fa) (fn : List He.DefD) : PySem.W.Hook where
  α := He.AlD
  obs := fun s => obsB n fa fn s.heap.get?
  val := fun _ => He.valD fn
  says := fun _ h => ∃ K : PySem.W.Frag, K.In h ∧ He.SaysD fa fn K
  of := fun _ _ e => ⟨_, He.frG_in, e⟩
  keeps := fun _ _ _ ⟨K, hK, c⟩ k => ⟨K, PySem.W.Frag.In.keeps hK k, c⟩
theorem obsB_eq {n : Nat} {fa : List He.Fa} {fn : List He.DefD} {g : Addr → Option Obj} {s : Shared} (h : ∀ a, g a = s.heap.get? a) : obsB n fa fn g = (hookB n fa fn).obs s := by
  have e : g = s.heap.get? := funext h
  rw [e] <;> rfl
theorem map3 {α β γ δ : Type} {r : Option α} {f : α → β} {g : α → γ} {h : α → δ} {b : β} {c : γ} {d : δ} (h1 : r.map f = some b) (h2 : r.map g = some c) (h3 : r.map h = some d) : r.map (fun s => (f s, g s, h s)) = some (b, c, d) := by
  cases r with
  | none => cases h1
  | some s =>
    simp only [Option.map_some, Option.some.injEq] at *
    rw [h1, h2, h3]
/-- the facts in parts -/
theorem map_obs {α : Type} {r : Option α} {K : α → PySem.W.Frag} {fa1 fa2 : List He.Fa} {fn1 fn2 : List He.DefD} (h1 : r.map (fun s => He.obsD fa1 fn1 (K s)) = some (He.valD fn1)) (h2 : r.map (fun s => He.obsD fa2 fn2 (K s)) = some (He.valD fn2)) :
    r.map (fun s => He.obsD (fa1 ++ fa2) (fn1 ++ fn2) (K s)) = some (He.valD (fn1 ++ fn2)) := by
  cases r with
  | none => cases h1
  | some s =>
    simp only [Option.map_some, Option.some.injEq] at *
    unfold He.obsD He.valD at *
    injection h1 with a1 a2
    injection h2 with b1 b2
    rw [Bool.and_eq_true] at a1 b1
    rw [List.all_append, List.all_append, List.map_append, List.map_append, a1.1, a1.2, b1.1, b1.2, a2, b2]
    rfl
end SW
end

section
set_option Elab.async false
set_option linter.all false
set_option maxRecDepth 100000
set_option maxHeartbeats 0
namespace SW
open PySem PySem.Spec PyProof.Rows L2
theorem tab_ok : TabOk tab ents := ⟨by decide +kernel, by decide +kernel, by decide +kernel, by decide +kernel⟩
def faL : List He.Fa := faOf tab
def fnL : List He.DefD := ents.map Ent.D
abbrev RL' : PySem.W.OpenRow := PySem.W.OpenLaw.row PySem.Challenge.rw_skeinwood_k85_whole_long_house
abbrev hkL : PySem.W.Hook := SW.hookB 6 faL fnL
def obL (s : PySem.W.SharedT) : He.AlD := SW.obsB 6 faL fnL (HandSHeadRun.getT s)
theorem obL_eq (s : PySem.W.SharedT) : obL s = hkL.obs s.abs := SW.obsB_eq (HandSHeadRun.getT_eq s)
def looseL : List PySem.Str := (["_wall", "SkeinError", "NoText", "NoPiece", "Loose", "Unlevel", "TooLong", "NoPlace", "NoName", "NothingDone", "LETTERS", "LONGEST_NAME", "is_plain", "is_name", "ends_in", "MOST_IN_LEAF", "MOST_SIGNS", "Shelf", "MOST_WRITTEN", "is_leaf", "parts_of", "turned_right", "turned_left", "levelled", "linked", "without_last", "without_first", "leaf_text", "poured", "joined"] : List PySem.Str) ++ (["built_of", "built", "repeated", "want_stretch", "leaf_cut", "halves", "put_in", "taken_out", "House", "MOST_READ", "gathered", "stretch_of", "_law_mixed", "_law_stream", "_law_take", "_law_plain", "_law_long", "_law_first", "_law_rest", "_law_signs", "_law_same", "_law_deed"] : List PySem.Str)
abbrev vwL : Program := PySem.W.view RL'.prog [60]
noncomputable abbrev rnL (w : World) (os : OsState) : Option PySem.W.SharedT := HandSHeadRun.endF (HandSHeadRun.stepQ (HandSHeadRun.denQ HandSHeadRun.tabQ) RL'.prog w) 12000 RL'.prog w os
theorem runA (w : World) (os : OsState) : (rnL w os).map (fun s => HandSHeadRun.looksF RL'.prog (PySem.W.boot_heap w.params) s.abs) = some true := by kernel_rfl
theorem runB (w : World) (os : OsState) : (rnL w os).map (fun s => HandSHeadRun.seenQ vwL looseL (importedModules RL'.prog.main.body) (fun s => PySem.W.xlAt vwL [] s && PySem.W.recOk RL'.toRowW.records s) s.abs) = some (PySem.W.openGood vwL looseL) := by kernel_rfl
theorem runC (w : World) (os : OsState) : (rnL w os).map (fun s => obL s) = some (hkL.val w) := by kernel_rfl
theorem runL (w : World) : HandSHeadRun.RunEq RL' vwL hkL obL 12000 looseL w := fun os => SW.map3 (runA w os) (runB w os) (runC w os)
end SW
end

section
set_option Elab.async false
set_option linter.all false
set_option maxRecDepth 100000
set_option maxHeartbeats 4000000
/-! Readings, a step at a time, by instances. -/
namespace SW
open PySem L2
/-- p holds if q does -/
class Step (p : Prop) (q : outParam Prop) : Prop where
  go : q → p
theorem go {p q : Prop} [s : Step p q] (h : q) : p := s.go h
/-- what stands in a slot; the slots behind a store -/
class Slot (σ : L2.St) (i : Nat) (v : outParam V) : Prop where
  h : σ[i]? = some (some v)
instance {v : V} {r : L2.St} : Slot (some v :: r) 0 v := ⟨rfl⟩
instance {v : V} {x : Option V} {r : L2.St} {i : Nat} [s : Slot r i v] : Slot (x :: r) (i + 1) v := ⟨by simpa using s.h⟩
class SetS (σ : L2.St) (i : Nat) (x : Option V) (σ' : outParam L2.St) : Prop where
  h : σ.set i x = σ'
instance {x y : Option V} {r : L2.St} : SetS (y :: r) 0 x (x :: r) := ⟨rfl⟩
instance {x y : Option V} {r r' : L2.St} {i : Nat} [s : SetS r i x r'] : SetS (y :: r) (i + 1) x (y :: r') := ⟨by rw [List.set_cons_succ, s.h]⟩
class SetSs (σ : L2.St) (is : List Nat) (xs : List V) (σ' : outParam L2.St) : Prop where
  h : (is.zip xs).foldl (fun s p => s.set p.1 (some p.2)) σ = σ'
instance {σ : L2.St} : SetSs σ [] [] σ := ⟨rfl⟩
instance {σ σ1 σ2 : L2.St} {i : Nat} {is : List Nat} {x : V} {xs : List V} [s : SetS σ i (some x) σ1] [t : SetSs σ1 is xs σ2] : SetSs σ (i :: is) (x :: xs) σ2 := ⟨by
  show (is.zip xs).foldl _ (σ.set i (some x)) = σ2
  rw [s.h]; exact t.h⟩
/-- what stands at an address -/
class At (g : G) (a : Addr) (o : outParam O) : Prop where
  h : g a = some o
class Fr (g : G) (a : Addr) : Prop where
  h : g a = none
class NeA (a b : Addr) : Prop where
  h : a ≠ b
theorem gus {g : G} {a : Addr} {o : O} : gu g a o a = some o := by unfold gu; rw [if_pos rfl]
theorem gun {g : G} {a b : Addr} {o : O} (h : b ≠ a) : gu g a o b = g b := by unfold gu; rw [if_neg h]
instance (priority := 2000) {g : G} {a : Addr} {o : O} : At (gu g a o) a o := ⟨gus⟩
instance (priority := 500) {g : G} {a b : Addr} {o u : O} [s : At g b u] [n : NeA b a] : At (gu g a o) b u := ⟨by rw [gun n.h]; exact s.h⟩
instance (priority := 900) {g : G} {a b : Addr} {o u : O} [s : At g b u] [n : Fr g a] : At (gu g a o) b u := ⟨by
  rw [gun]
  · exact s.h
  · rintro rfl; have := s.h; rw [n.h] at this; cases this⟩
theorem NeA.of_at {g : G} {a b : Addr} {o u : O} (s : At g a o) (t : At g b u) (h : o ≠ u) : NeA a b := ⟨by rintro rfl; exact h (Option.some.inj (s.h.symm.trans t.h))⟩
theorem NeA.of_fr {g : G} {a b : Addr} {o : O} (s : At g a o) (t : Fr g b) : NeA a b := ⟨by rintro rfl; have := s.h; rw [t.h] at this; cases this⟩
theorem NeA.symm {a b : Addr} (n : NeA a b) : NeA b a := ⟨fun e => n.h e.symm⟩
theorem Fr.of_gu {g : G} {a b : Addr} {o : O} (f : Fr (gu g a o) b) : Fr g b := ⟨by
  have := f.h
  unfold gu at this
  split at this
  · cases this
  · exact this⟩
theorem Fr.ne {g : G} {a b : Addr} {o : O} (f : Fr (gu g a o) b) : NeA a b := NeA.of_fr (g := gu g a o) inferInstance f
/-- a field -/
class Fld (fs : List (Nat × V)) (f : Nat) (v : outParam V) : Prop where
  h : fs.lookup f = some v
instance (priority := 2000) {f : Nat} {v : V} {r : List (Nat × V)} : Fld ((f, v) :: r) f v := ⟨by simp [List.lookup]⟩
theorem fld_no {f i : Nat} {v x : V} {r : List (Nat × V)} (s : Fld r f v) (h : (f == i) = false) : Fld ((i, x) :: r) f v := ⟨by rw [List.lookup_cons, h]; exact s.h⟩
class NeN (a b : Nat) : Prop where
  h : (a == b) = false
instance : NeN 0 (n + 1) := ⟨by simp⟩
instance : NeN (n + 1) 0 := ⟨by simp⟩
instance [s : NeN a b] : NeN (a + 1) (b + 1) := ⟨by have := s.h; simpa using this⟩
instance (priority := 500) {f i : Nat} {v x : V} {r : List (Nat × V)} [s : Fld r f v] [n : NeN f i] : Fld ((i, x) :: r) f v := fld_no s n.h
class PutN (f : Nat) (v : V) (fs : List (Nat × V)) (fs' : outParam (List (Nat × V))) : Prop where
  h : putN f v fs = fs'
instance {f : Nat} {v : V} : PutN f v [] [(f, v)] := ⟨rfl⟩
instance (priority := 2000) {f : Nat} {v x : V} {r : List (Nat × V)} : PutN f v ((f, x) :: r) ((f, v) :: r) := ⟨by simp [putN]⟩
instance (priority := 500) {f i : Nat} {v x : V} {r r' : List (Nat × V)} [s : PutN f v r r'] [n : NeN i f] : PutN f v ((i, x) :: r) ((i, x) :: r') := ⟨by
  have : i ≠ f := by have := n.h; simpa using this
  unfold putN
  rw [if_neg this, s.h]⟩

section
variable {kl : Addr → List V → Prop} {fn : Nat → SpG} {er : Nat → L2.St → G → Prop} {c : Cal} {σ σ' : L2.St} {g : G} {Q : VG} {QB : Bool → G → Prop} {QL : List V → G → Prop} {a b t : T} {x y : TB} {s u : TSt} {l : TLs} {nx : L2.St → G → Prop} {rt : VG} {bk ct : L2.St → G → Prop} {D : En}
/-! statements -/
instance : Step (sNext c ⟨nx, rt, bk, ct⟩ σ g) (nx σ g) := ⟨id⟩
instance : Step (sSeq s u c ⟨nx, rt, bk, ct⟩ σ g) (s c ⟨u c ⟨nx, rt, bk, ct⟩, rt, bk, ct⟩ σ g) := ⟨id⟩
instance : Step (sDrop a c ⟨nx, rt, bk, ct⟩ σ g) (a c σ g fun _ g1 => nx σ g1) := ⟨id⟩
instance : Step (sRet a c ⟨nx, rt, bk, ct⟩ σ g) (a c σ g rt) := ⟨id⟩
instance : Step (sRetN c ⟨nx, rt, bk, ct⟩ σ g) (rt .non g) := ⟨id⟩
instance : Step (sBrk c ⟨nx, rt, bk, ct⟩ σ g) (bk σ g) := ⟨id⟩
instance : Step (sIf x s u c D σ g) (x c σ g fun k g1 => if k = true then s c D σ g1 else u c D σ g1) := ⟨id⟩
instance {tg : TTg} : Step (sAsg a tg c ⟨nx, rt, bk, ct⟩ σ g) (a c σ g fun v g1 => tg c v σ g1 nx) := ⟨id⟩
instance {i : Nat} {v : V} {K : L2.St → G → Prop} [s : SetS σ i (some v) σ'] : Step (gN i c v σ g K) (K σ' g) := ⟨fun h => by unfold gN; rw [s.h]; exact h⟩
instance {is : List Nat} {p : Addr} {xs : List V} {K : L2.St → G → Prop} [e : At g p (.tup xs)] [s : SetSs σ is xs σ'] : Step (gTp is c (.ref p) σ g K) (xs.length = is.length ∧ K σ' g) := ⟨fun h => ⟨p, xs, rfl, e.h, h.1, by rw [s.h]; exact h.2⟩⟩
instance {f : Nat} : Step (sSetAt a f b c ⟨nx, rt, bk, ct⟩ σ g) (b c σ g fun v g1 => a c σ g1 fun x g2 => ∃ p cn fs, x = .ref p ∧ g2 p = some (.ins cn fs) ∧ f ∈ atOf cn ∧ fs.length < 1000 ∧ nx σ (gu g2 p (.ins cn (putN f v fs)))) := ⟨id⟩
instance {f cn : Nat} {p : Addr} {v : V} {fs fs' : List (Nat × V)} {K : G → Prop} [e : At g p (.ins cn fs)] [s : PutN f v fs fs'] : Step (∃ p' cn fs, V.ref p = .ref p' ∧ g p' = some (.ins cn fs) ∧ f ∈ atOf cn ∧ fs.length < 1000 ∧ K (gu g p' (.ins cn (putN f v fs)))) ((f ∈ atOf cn ∧ fs.length < 1000) ∧ K (gu g p (.ins cn fs'))) :=
  ⟨fun h => ⟨p, cn, fs, rfl, e.h, h.1.1, h.1.2, by rw [s.h]; exact h.2⟩⟩
/-! tests -/
instance : Step (tBl a c σ g QB) (a c σ g fun x g1 => ∃ k, x = .bl k ∧ QB k g1) := ⟨id⟩
instance {k : Bool} {K : Bool → Prop} : Step (∃ k', V.bl k = .bl k' ∧ K k') (K k) := ⟨fun h => ⟨k, rfl, h⟩⟩
instance : Step (tVal a c σ g QB) (a c σ g fun x g1 => truV c.kl x g1 QB) := ⟨id⟩
instance : Step (tAnd x y c σ g QB) (x c σ g fun k g1 => if k = true then y c σ g1 QB else QB false g1) := ⟨id⟩
instance : Step (tOr x y c σ g QB) (x c σ g fun k g1 => if k = true then QB true g1 else y c σ g1 QB) := ⟨id⟩
instance : Step (tNot x c σ g QB) (x c σ g fun k g1 => QB (!k) g1) := ⟨id⟩
instance : Step (tYes c σ g QB) (QB true g) := ⟨id⟩
instance {k : Bool} : Step (truV kl (.bl k) g QB) (QB k g) := ⟨id⟩
instance {A B : Prop} : Step (if true = true then A else B) A := ⟨fun h => by rw [if_pos rfl]; exact h⟩
instance {A B : Prop} : Step (if false = true then A else B) B := ⟨fun h => by rw [if_neg Bool.false_ne_true]; exact h⟩
instance {A B : Prop} : Step (if (!true) = true then A else B) B := ⟨fun h => by rw [if_neg (by decide)]; exact h⟩
instance {A B : Prop} : Step (if (!false) = true then A else B) A := ⟨fun h => by rw [if_pos (by decide)]; exact h⟩
/-! expressions -/
instance {i : Nat} {v : V} [s : Slot σ i v] : Step (eV i c σ g Q) (Q v g) := ⟨fun h => ⟨v, s.h, h⟩⟩
instance {v : V} : Step (eC v c σ g Q) (Q v g) := ⟨id⟩
instance {op : Operator} : Step (eBin op a b c σ g Q) (a c σ g fun x g1 => b c σ g1 fun y g2 => binV c.kl op x y g2 Q) := ⟨id⟩
instance : Step (eNeg a c σ g Q) (a c σ g fun x g1 => ∃ i, x = .int i ∧ Q (.int (-i)) g1) := ⟨id⟩
instance {i : Int} {K : Int → Prop} : Step (∃ j, V.int i = .int j ∧ K j) (K i) := ⟨fun h => ⟨i, rfl, h⟩⟩
instance {op : CmpOp} : Step (eCmp op a b c σ g Q) (a c σ g fun x g1 => b c σ g1 fun y g2 => cmpV c.kl op x y g2 fun k g3 => Q (.bl k) g3) := ⟨id⟩
instance {r : List (CmpOp × T)} : Step (eChn a r c σ g Q) (a c σ g fun x g1 => chn r x c σ g1 Q) := ⟨id⟩
instance {op : CmpOp} {v : V} : Step (chn [(op, b)] v c σ g Q) (b c σ g fun y g2 => cmpV c.kl op v y g2 fun k g3 => Q (.bl k) g3) := ⟨id⟩
instance {op : CmpOp} {v : V} {p : CmpOp × T} {r : List (CmpOp × T)} : Step (chn ((op, b) :: p :: r) v c σ g Q) (b c σ g fun y g2 => cmpV c.kl op v y g2 fun k g3 => if k = true then chn (p :: r) y c σ g3 Q else Q (.bl false) g3) := ⟨id⟩
instance : Step (eAnd a b c σ g Q) (a c σ g fun x g1 => truV c.kl x g1 fun k g2 => if k = true then b c σ g2 Q else Q x g2) := ⟨id⟩
instance : Step (eOr a b c σ g Q) (a c σ g fun x g1 => truV c.kl x g1 fun k g2 => if k = true then Q x g2 else b c σ g2 Q) := ⟨id⟩
instance : Step (eNot a c σ g Q) (a c σ g fun x g1 => truV c.kl x g1 fun k g2 => Q (.bl (!k)) g2) := ⟨id⟩
instance : Step (lNil c σ g QL) (QL [] g) := ⟨id⟩
instance : Step (lCons a l c σ g QL) (a c σ g fun x g1 => l c σ g1 fun xs g2 => QL (x :: xs) g2) := ⟨id⟩
instance : Step (eTup l c σ g Q) (l c σ g fun xs g1 => xs.length ≤ sizeLine ∧ ∀ p, g1 p = none → Q (.ref p) (gu g1 p (.tup xs))) := ⟨id⟩
instance : Step (eLst l c σ g Q) (l c σ g fun xs g1 => xs.length ≤ sizeLine ∧ ∀ p, g1 p = none → Q (.ref p) (gu g1 p (.lst xs))) := ⟨id⟩
instance : Step (eIx a b c σ g Q) (a c σ g fun x g1 => b c σ g1 fun y g2 => ixV c.kl x y g2 Q) := ⟨id⟩
instance {lo hi : Cal → L2.St → G → (Option Int → G → Prop) → Prop} : Step (eSl a lo hi c σ g Q) (a c σ g fun x g1 => lo c σ g1 fun l g2 => hi c σ g2 fun h g3 => slV c.kl x l h g3 Q) := ⟨id⟩
instance {K : Option Int → G → Prop} : Step (oNone c σ g K) (K none g) := ⟨id⟩
instance {K : Option Int → G → Prop} : Step (oSome a c σ g K) (a c σ g fun x g1 => ∃ i, x = .int i ∧ K (some i) g1) := ⟨id⟩
instance {f : Nat} : Step (eAt a f c σ g Q) (a c σ g fun x g1 => ∃ p cn fs v, x = .ref p ∧ g1 p = some (.ins cn fs) ∧ fs.lookup f = some v ∧ Q v g1) := ⟨id⟩
instance {f cn : Nat} {p : Addr} {fs : List (Nat × V)} {v : V} {K : V → Prop} [e : At g p (.ins cn fs)] [s : Fld fs f v] : Step (∃ p' cn fs v, V.ref p = .ref p' ∧ g p' = some (.ins cn fs) ∧ fs.lookup f = some v ∧ K v) (K v) := ⟨fun h => ⟨p, cn, fs, v, rfl, e.h, s.h, h⟩⟩
instance {f : Bi} : Step (eBi f l c σ g Q) (l c σ g fun xs g1 => biV c.kl f xs g1 Q) := ⟨id⟩
instance {m : Bm} : Step (eBm m a l c σ g Q) (a c σ g fun x g1 => bmOk m x g1 ∧ l c σ g1 fun vs g2 => bmV c.kl m x vs g2 Q) := ⟨id⟩
instance {f : Nat} : Step (eFn f l ⟨kl, fn, er⟩ σ g Q) (l ⟨kl, fn, er⟩ σ g fun vs g1 => fn f vs g1 Q fun e g2 => er e σ g2) := ⟨id⟩
instance {cn f : Nat} : Step (eMk cn f l ⟨kl, fn, er⟩ σ g Q) (l ⟨kl, fn, er⟩ σ g fun vs g1 => ∀ p, g1 p = none → fn f (.ref p :: vs) (gu g1 p (.ins cn [])) (fun v g2 => v = .non ∧ Q (.ref p) g2) fun e g2 => er e σ g2) := ⟨id⟩
class MtL (ms : List (Nat × Nat)) (cn : Nat) (f : outParam Nat) : Prop where
  h : ms.lookup cn = some f
instance (priority := 2000) {cn f : Nat} {r : List (Nat × Nat)} : MtL ((cn, f) :: r) cn f := ⟨by simp [List.lookup]⟩
instance (priority := 500) {cn dn f f' : Nat} {r : List (Nat × Nat)} [s : MtL r cn f] [n : NeN cn dn] : MtL ((dn, f') :: r) cn f := ⟨by rw [List.lookup_cons, n.h]; exact s.h⟩
class ClsA (g : G) (a : Addr) (cn : outParam Nat) : Prop where
  h : clsOf g (.ref a) = some cn
/-- the class of the object -/
class ClsO (o : O) (cn : outParam Nat) : Prop where
  h : (match o with | .ins cn _ => some cn | .shf _ => some 0 | _ => none) = some cn
instance {cn : Nat} {fs : List (Nat × V)} : ClsO (.ins cn fs) cn := ⟨rfl⟩
instance {S : Sh} : ClsO (.shf S) 0 := ⟨rfl⟩
instance {p : Addr} {o : O} {cn : Nat} [e : At g p o] [k : ClsO o cn] : ClsA g p cn := ⟨by
  have := k.h
  unfold clsOf
  simp only []
  rw [e.h]
  cases o <;> first | exact this | (cases this)⟩
instance {ms : List (Nat × Nat)} : Step (eMt ms a l ⟨kl, fn, er⟩ σ g Q) (a ⟨kl, fn, er⟩ σ g fun x g1 => ∃ cn f, clsOf g1 x = some cn ∧ ms.lookup cn = some f ∧ l ⟨kl, fn, er⟩ σ g1 fun vs g2 => fn f (x :: vs) g2 Q fun e g3 => er e σ g3) := ⟨id⟩
instance {ms : List (Nat × Nat)} {p : Addr} {cn f : Nat} {K : Nat → Prop} [e : ClsA g p cn] [m : MtL ms cn f] : Step (∃ cn f, clsOf g (.ref p) = some cn ∧ ms.lookup cn = some f ∧ K f) (K f) := ⟨fun h => ⟨cn, f, e.h, m.h, h⟩⟩
/-! operations on values -/
instance {i j : Int} : Step (binV kl .Add (.int i) (.int j) g Q) (Q (.int (i + j)) g) := ⟨id⟩
instance {i j : Int} : Step (binV kl .Sub (.int i) (.int j) g Q) (Q (.int (i - j)) g) := ⟨id⟩
instance {i j : Str} : Step (binV kl .Add (.str i) (.str j) g Q) (i.length + j.length ≤ sizeLine ∧ Q (.str (i ++ j)) g) := ⟨id⟩
instance {i j : Int} : Step (binV kl .Mult (.int i) (.int j) g Q) (CMulW i j ∧ Q (.int (i * j)) g) := ⟨id⟩
instance {i j : Int} : Step (binV kl .FloorDiv (.int i) (.int j) g Q) (CDivW i j ∧ Q (.int (i / j)) g) := ⟨id⟩
instance {i j : Int} : Step (binV kl .Mod (.int i) (.int j) g Q) (0 < j ∧ Q (.int (i % j)) g) := ⟨id⟩
instance {i j : Int} : Step (binV kl .Pow (.int i) (.int j) g Q) (CPow i j ∧ Q (.int (i ^ j.toNat)) g) := ⟨id⟩
theorem ls_at [e : At g p (.lst xs)] : Ls kl g p xs := .inl e.h
instance {p q : Addr} {xs ys : List V} [e1 : At g p (.lst xs)] [e2 : At g q (.lst ys)] : Step (binV kl .Add (.ref p) (.ref q) g Q) (xs.length + ys.length ≤ sizeLine ∧ ∀ r, g r = none → Q (.ref r) (gu g r (.lst (xs ++ ys)))) := ⟨fun h => ⟨xs, ys, .inl e1.h, .inl e2.h, h⟩⟩
instance {i j : Int} : Step (cmpV kl .Lt (.int i) (.int j) g QB) (QB (decide (i < j)) g) := ⟨fun h => ⟨i, j, rfl, rfl, h⟩⟩
instance {i j : Int} : Step (cmpV kl .LtE (.int i) (.int j) g QB) (QB (decide (i ≤ j)) g) := ⟨id⟩
instance {i j : Str} : Step (cmpV kl .LtE (.str i) (.str j) g QB) (QB (!decide (j.cps.toList < i.cps.toList)) g) := ⟨id⟩
instance {i j : Int} : Step (cmpV kl .Gt (.int i) (.int j) g QB) (QB (decide (j < i)) g) := ⟨fun h => ⟨i, j, rfl, rfl, h⟩⟩
instance {i j : Int} : Step (cmpV kl .GtE (.int i) (.int j) g QB) (QB (decide (j ≤ i)) g) := ⟨fun h => ⟨i, j, rfl, rfl, h⟩⟩
instance {i j : Int} : Step (cmpV kl .Eq (.int i) (.int j) g QB) (QB (decide (i = j)) g) := ⟨fun h => .inl ⟨rfl, by
  have : decide (V.int i = V.int j) = decide (i = j) := by simp
  rw [this]; exact h⟩⟩
instance {i j : Int} : Step (cmpV kl .NotEq (.int i) (.int j) g QB) (QB (!decide (i = j)) g) := ⟨fun h => ⟨rfl, by
  have : decide (V.int i = V.int j) = decide (i = j) := by simp
  rw [this]; exact h⟩⟩
instance {i j : Str} : Step (cmpV kl .Eq (.str i) (.str j) g QB) (QB (decide (i = j)) g) := ⟨fun h => .inl ⟨rfl, by
  have : decide (V.str i = V.str j) = decide (i = j) := by simp
  rw [this]; exact h⟩⟩
instance {i j : Str} : Step (cmpV kl .NotEq (.str i) (.str j) g QB) (QB (!decide (i = j)) g) := ⟨fun h => ⟨rfl, by
  have : decide (V.str i = V.str j) = decide (i = j) := by simp
  rw [this]; exact h⟩⟩
instance {v : V} : Step (cmpV kl .Is v .non g QB) (QB (decide (v = .non)) g) := ⟨fun h => .inl ⟨rfl, h⟩⟩
instance {v : V} : Step (cmpV kl .IsNot v .non g QB) (QB (!decide (v = .non)) g) := ⟨fun h => .inl ⟨rfl, h⟩⟩
instance {p : Addr} {xs : List V} {i : Int} [e : At g p (.lst xs)] : Step (ixV kl (.ref p) (.int i) g Q) (∃ v, atI xs i = some v ∧ Q v g) := ⟨fun ⟨v, h, q⟩ => .inl ⟨xs, i, v, rfl, .inl (.inl e.h), h, q⟩⟩
instance (priority := 1500) {p : Addr} {xs : List V} {i : Int} [e : At g p (.tup xs)] : Step (ixV kl (.ref p) (.int i) g Q) (∃ v, atI xs i = some v ∧ Q v g) := ⟨fun ⟨v, h, q⟩ => .inl ⟨xs, i, v, rfl, .inr e.h, h, q⟩⟩
instance {p : Addr} {xs : List V} {lo hi : Option Int} [e : At g p (.lst xs)] : Step (slV kl (.ref p) lo hi g Q) (∀ r, g r = none → Q (.ref r) (gu g r (.lst (cutV xs lo hi)))) := ⟨fun h => ⟨xs, .inl e.h, h⟩⟩
instance {z : Str} {lo hi : Option Int} : Step (slV kl (.str z) lo hi g Q) (z.length ≤ sizeLine ∧ Q (.str (cutS z lo hi)) g) := ⟨id⟩
instance {z : Str} : Step (biV kl .len [.str z] g Q) (z.length ≤ sizeLine ∧ Q (.int z.length) g) := ⟨id⟩
instance {p : Addr} {xs : List V} [e : At g p (.lst xs)] : Step (biV kl .len [.ref p] g Q) (Q (.int xs.length) g) := ⟨fun h => .inl ⟨xs, .inl (.inl e.h), h⟩⟩
instance {i j : Int} : Step (biV kl .max [.int i, .int j] g Q) (Q (.int (if j > i then j else i)) g) := ⟨id⟩
instance {i j : Int} : Step (biV kl .min [.int i, .int j] g Q) (Q (.int (if j < i then j else i)) g) := ⟨id⟩
instance {i : Int} : Step (biV kl .abs [.int i] g Q) (Q (.int (if i < 0 then -i else i)) g) := ⟨id⟩
instance {k : Bool} : Step (biV kl .int [.bl k] g Q) (Q (.int (if k then 1 else 0)) g) := ⟨id⟩
instance {z : Str} : Step (biV kl .isstr [.str z] g Q) (Q (.bl true) g) := ⟨id⟩
instance {i : Int} : Step (biV kl .isstr [.int i] g Q) (Q (.bl false) g) := ⟨id⟩
instance {p : Addr} {xs : List V} [e : At g p (.lst xs)] {K : Prop} : Step (bmOk .append (.ref p) g ∧ K) K := ⟨fun h => ⟨⟨xs, e.h⟩, h⟩⟩
instance {p : Addr} {xs : List V} [e : At g p (.lst xs)] {K : Prop} : Step (bmOk .extend (.ref p) g ∧ K) K := ⟨fun h => ⟨⟨xs, e.h⟩, h⟩⟩
instance {p : Addr} {xs : List V} [e : At g p (.lst xs)] {K : Prop} : Step (bmOk .pop (.ref p) g ∧ K) K := ⟨fun h => ⟨⟨xs, e.h⟩, h⟩⟩
instance {z : Str} {K : Prop} : Step (bmOk .count (.str z) g ∧ K) K := ⟨fun h => ⟨trivial, h⟩⟩
instance {z : Str} {K : Prop} : Step (bmOk .join (.str z) g ∧ K) K := ⟨fun h => ⟨trivial, h⟩⟩
instance {p : Addr} {xs : List V} {v : V} [e : At g p (.lst xs)] : Step (bmV kl .append (.ref p) [v] g Q) (xs.length < sizeLine ∧ Q .non (gu g p (.lst (xs ++ [v])))) := ⟨fun h => ⟨p, xs, v, rfl, rfl, e.h, h⟩⟩
instance {p q : Addr} {xs ys : List V} [e : At g p (.lst xs)] [e2 : At g q (.lst ys)] : Step (bmV kl .extend (.ref p) [.ref q] g Q) (xs.length + ys.length ≤ sizeLine ∧ Q .non (gu g p (.lst (xs ++ ys)))) := ⟨fun h => ⟨p, q, xs, ys, rfl, rfl, e.h, e2.h, h⟩⟩
instance {y z : Str} : Step (bmV kl .count (.str y) [.str z] g Q) (Q (.int (Txt.count y z)) g) := ⟨fun h => ⟨y, z, rfl, rfl, h⟩⟩
end
/-! defs -/
theorem gam_of {kl : Addr → List V → Prop} {bs : Nat → SpG} {defs : Nat → Option FDef} {k f : Nat} {d : FDef} {vs : List V} {g : G} {Q : VG} {E : XG} (h : defs f = some d) (hl : vs.length = d.n)
    (hb : d.body ⟨kl, Gam kl bs defs k, fun e _ g' => ∃ g'', Sub g'' g' ∧ E e g''⟩ ⟨fun _ g' => ∃ g'', Sub g'' g' ∧ Q .non g'', fun v g' => ∃ g'', Sub g'' g' ∧ Q v g'', fun _ _ => False, fun _ _ => False⟩ (startG d.sz vs) g) : Gam kl bs defs (k + 1) f vs g Q E := by
  refine Or.inr ?_
  rw [h]
  exact ⟨hl, hb⟩
theorem Sub.refl (g : G) : Sub g g := fun _ _ h => h
theorem Sub.trans {a b c : G} (h : Sub a b) (k : Sub b c) : Sub a c := fun x o e => k x o (h x o e)
theorem Sub.new {g : G} {a : Addr} {o : O} (h : g a = none) : Sub g (gu g a o) := fun b u e => by
  rw [gun]
  · exact e
  · rintro rfl; rw [h] at e; cases e
theorem Sub.gu {g g' : G} {a : Addr} {o : O} (h : Sub g g') : Sub (gu g a o) (gu g' a o) := fun b u e => by
  unfold SW.gu at e ⊢
  split
  · rename_i hb; rw [if_pos hb] at e; exact e
  · rename_i hb; rw [if_neg hb] at e; exact h b u e
end SW
end

section
set_option Elab.async false
set_option linter.all false
set_option maxRecDepth 100000
set_option maxHeartbeats 4000000
/-! The shelf in plain Lean. -/
namespace SW
open PySem L2
/-! ### reads -/
def rdT (S : Sh) (f : PRec → Nat) : Nat → Nat
  | 0 => 0
  | t + 1 => ((S[t]?).map f).getD 0
abbrev sgT (S : Sh) (t : Nat) : Nat := rdT S PRec.sg t
abbrev enT (S : Sh) (t : Nat) : Nat := rdT S PRec.en t
abbrev lvT (S : Sh) (t : Nat) : Nat := rdT S PRec.lv t
abbrev hgT (S : Sh) (t : Nat) : Nat := rdT S PRec.ht t
abbrev fiT (S : Sh) (t : Nat) : Nat := rdT S PRec.fi t
abbrev laT (S : Sh) (t : Nat) : Nat := rdT S PRec.la t
def htT (S : Sh) : Nat → Int
  | 0 => -1
  | t + 1 => (hgT S (t + 1) : Int)
/-- a piece -/
def pcT (S : Sh) : Nat → Option (Sum Str (Nat × Nat))
  | 0 => none
  | t + 1 => (S[t]?).map (·.pc)
def lkF : Nat → Sh → Sum Str (Nat × Nat) → Option Nat
  | _, [], _ => none
  | n, r :: S, pc => if r.pc = pc then some (n + 1) else lkF (n + 1) S pc
abbrev lkP (S : Sh) (pc : Sum Str (Nat × Nat)) : Option Nat := lkF 0 S pc
/-! ### deeds -/
abbrev M (α : Type) := Sh → Option (α × Sh)
def plainB (x : Str) : Bool := x.cps.toList.all fun c => (decide (32 ≤ c) && decide (c ≤ 126)) || decide (c = 10)
def nlN (x : Str) : Nat := (Txt.count x "\n").toNat
theorem nlN_eq (x : Str) : (nlN x : Int) = Txt.count x "\n" := Int.toNat_of_nonneg (by unfold Txt.count; omega)
def putP (r : PRec) : M Nat := fun S => match lkP S r.pc with
  | some n => some (n, S)
  | none => if S.length + 2 < sizeLine then some (S.length + 1, S ++ [r]) else none
def lfR (S : Sh) (x : Str) : PRec := ⟨.inl x, x.cps.size, nlN x, 1, 0, S.length + 1, S.length + 1⟩
def leafN (x : Str) : M Nat := fun S => if plainB x = true ∧ 1 ≤ x.cps.size ∧ x.cps.size ≤ 8 then putP (lfR S x) S else none
def fkR (S : Sh) (a b : Nat) : PRec := ⟨.inr (a, b), sgT S a + sgT S b, enT S a + enT S b, lvT S a + lvT S b, 1 + max (hgT S a) (hgT S b), fiT S a, laT S b⟩
structure FkOk (S : Sh) (a b : Nat) : Prop where
  a0 : 0 < a
  a1 : a ≤ S.length
  b0 : 0 < b
  b1 : b ≤ S.length
  la : laT S a ≤ S.length
  fi : fiT S b ≤ S.length
  cl : 8 < sgT S (laT S a) + sgT S (fiT S b)
  h1 : hgT S a ≤ hgT S b + 1
  h2 : hgT S b ≤ hgT S a + 1
  sg : sgT S a + sgT S b ≤ 1000000000000000000
instance {S : Sh} {a b : Nat} : Decidable (FkOk S a b) :=
  decidable_of_iff (0 < a ∧ a ≤ S.length ∧ 0 < b ∧ b ≤ S.length ∧ laT S a ≤ S.length ∧ fiT S b ≤ S.length ∧ 8 < sgT S (laT S a) + sgT S (fiT S b) ∧ hgT S a ≤ hgT S b + 1 ∧ hgT S b ≤ hgT S a + 1 ∧ sgT S a + sgT S b ≤ 1000000000000000000)
    ⟨fun ⟨h1, h2, h3, h4, h5, h6, h7, h8, h9, h10⟩ => ⟨h1, h2, h3, h4, h5, h6, h7, h8, h9, h10⟩, fun ⟨h1, h2, h3, h4, h5, h6, h7, h8, h9, h10⟩ => ⟨h1, h2, h3, h4, h5, h6, h7, h8, h9, h10⟩⟩
def forkN (a b : Nat) : M Nat := fun S => if FkOk S a b then putP (fkR S a b) S else none
/-- a deed that goes through -/
class Does {α : Type} (m : M α) (S : Sh) (r : outParam α) (S' : outParam Sh) : Prop where
  h : m S = some (r, S')
theorem atI_cons {α : Type} {f : PRec → α} {z : α} {S : Sh} {t : Nat} (h : t ≤ S.length) : atI (z :: S.map f) (t : Int) = some (match t with | 0 => z | t + 1 => ((S[t]?).map f).getD z) := by
  unfold atI ixN
  rw [if_pos (by omega), if_pos (by simp; omega)]
  cases t with
  | zero => simp
  | succ n =>
    have hn : n < S.length := by omega
    simp [hn]
theorem atI_rd {S : Sh} {f : PRec → Nat} {t : Nat} (h : t ≤ S.length) : atI (V.int 0 :: S.map fun r => V.int (f r)) (t : Int) = some (.int (rdT S f t)) := by
  rw [atI_cons h]
  cases t with
  | zero => rfl
  | succ n =>
    have hn : n < S.length := by omega
    simp [rdT, hn]
theorem atI_sg {S : Sh} {t : Nat} (h : t ≤ S.length) : atI (V.int 0 :: S.map fun r => V.int r.sg) (t : Int) = some (.int (sgT S t)) := atI_rd h
theorem atI_en {S : Sh} {t : Nat} (h : t ≤ S.length) : atI (V.int 0 :: S.map fun r => V.int r.en) (t : Int) = some (.int (enT S t)) := atI_rd h
theorem atI_lv {S : Sh} {t : Nat} (h : t ≤ S.length) : atI (V.int 0 :: S.map fun r => V.int r.lv) (t : Int) = some (.int (lvT S t)) := atI_rd h
theorem atI_fi {S : Sh} {t : Nat} (h : t ≤ S.length) : atI (V.int 0 :: S.map fun r => V.int r.fi) (t : Int) = some (.int (fiT S t)) := atI_rd h
theorem atI_la {S : Sh} {t : Nat} (h : t ≤ S.length) : atI (V.int 0 :: S.map fun r => V.int r.la) (t : Int) = some (.int (laT S t)) := atI_rd h
theorem atI_ht {S : Sh} {t : Nat} (h : t ≤ S.length) : atI (V.int (-1) :: S.map fun r => V.int r.ht) (t : Int) = some (.int (htT S t)) := by
  rw [atI_cons h]
  cases t with
  | zero => rfl
  | succ n =>
    have hn : n < S.length := by omega
    simp [htT, rdT, hn]
theorem htT_pos {S : Sh} {t : Nat} (h : 0 < t) : htT S t = (hgT S t : Int) := by
  cases t with
  | zero => omega
  | succ n => rfl
theorem pcT_some {S : Sh} {t : Nat} (h : 0 < t) (h1 : t ≤ S.length) : ∃ r, S[t - 1]? = some r ∧ pcT S t = some r.pc := by
  cases t with
  | zero => omega
  | succ n =>
    have hn : n < S.length := by omega
    exact ⟨S[n], by simp [hn], by simp [pcT, hn]⟩
theorem rdT_app {S : Sh} {S' : Sh} {f : PRec → Nat} {t : Nat} (h : t ≤ S.length) : rdT (S ++ S') f t = rdT S f t := by
  cases t with
  | zero => rfl
  | succ n =>
    have hn : n < S.length := by omega
    simp [rdT, hn, List.getElem?_append]
theorem htT_app {S : Sh} {S' : Sh} {t : Nat} (h : t ≤ S.length) : htT (S ++ S') t = htT S t := by
  cases t with
  | zero => rfl
  | succ n => simp only [htT, hgT]; rw [rdT_app h]
theorem pcT_app {S : Sh} {S' : Sh} {t : Nat} (h : t ≤ S.length) : pcT (S ++ S') t = pcT S t := by
  cases t with
  | zero => rfl
  | succ n =>
    have hn : n < S.length := by omega
    simp [pcT, hn, List.getElem?_append]
theorem rdT_new {S : Sh} {r : PRec} {f : PRec → Nat} : rdT (S ++ [r]) f (S.length + 1) = f r := by simp [rdT]
theorem pcT_new {S : Sh} {r : PRec} : pcT (S ++ [r]) (S.length + 1) = some r.pc := by simp [pcT]
theorem htT_new {S : Sh} {r : PRec} : htT (S ++ [r]) (S.length + 1) = r.ht := by simp [htT, rdT]
end SW
end

section
set_option Elab.async false
set_option linter.all false
set_option maxRecDepth 100000
set_option maxHeartbeats 4000000
/-! Readings, a step at a time: walks, comprehensions, stores. -/
namespace SW
open PySem L2
def sixR (x y v : V) (g3 : G) (K : G → Prop) : Prop := ∃ a, x = .ref a ∧
  ((∃ xs k j, y = .int k ∧ g3 a = some (.lst xs) ∧ ixN xs.length k = some j ∧ K (gu g3 a (.lst (xs.set j v)))) ∨ ∃ g4, dPut g3 a y v g4 ∧ K g4)
def lcR (tg : TTg) (tt : TB) (e : T) (own : List Nat) (c : Cal) (σ : L2.St) (Q : VG) (S : Sq) (g1 : G) : Prop := ∀ D, g1 D = none → ∃ W : Nat → List V → G → Prop, W 0 [] (gu g1 D (.lst [])) ∧ ∀ i acc g2, W i acc g2 →
  S.ok c.kl g2 ∧ g2 D = some (.lst acc) ∧ if i < S.len then S.item i g2 fun x g3 => tg c x (wipe σ own) g3 fun σ4 g4 => wipe σ4 own = wipe σ own ∧ tt { c with er := fun _ _ _ => False } σ4 g4 fun b g5 =>
    if b = true then e { c with er := fun _ _ _ => False } σ4 g5 fun y g6 => g6 D = some (.lst acc) ∧ acc.length < sizeLine ∧ ∃ g7, Sub g7 (gu g6 D (.lst (acc ++ [y]))) ∧ W (i + 1) (acc ++ [y]) g7 else ∃ g7, Sub g7 g5 ∧ W (i + 1) acc g7
  else Q (.ref D) g2
def forR (tg : TTg) (b : TSt) (c : Cal) (D : En) (σ : L2.St) (S : Sq) (g1 : G) : Prop := ∃ W : Nat → L2.St → G → Prop, W 0 σ g1 ∧ ∀ i σ g, W i σ g →
  S.ok c.kl g ∧ if i < S.len then S.item i g fun x g3 => tg c x σ g3 fun σ4 g4 =>
    b c { D with nx := fun σ' g' => ∃ g'', Sub g'' g' ∧ W (i + 1) σ' g'', ct := fun σ' g' => ∃ g'', Sub g'' g' ∧ W (i + 1) σ' g'', bk := D.nx } σ4 g4
  else D.nx σ g
section
variable {kl : Addr → List V → Prop} {fn : Nat → SpG} {er : Nat → L2.St → G → Prop} {c : Cal} {σ σ' : L2.St} {g : G} {Q : VG} {QB : Bool → G → Prop} {QL : List V → G → Prop} {a b t : T} {x y : TB} {s u : TSt} {l : TLs} {nx : L2.St → G → Prop} {rt : VG} {bk ct : L2.St → G → Prop} {D : En} {R : Sq → G → Prop}
instance {o i e : T} : Step (sSetIx o i e c ⟨nx, rt, bk, ct⟩ σ g) (e c σ g fun v g1 => o c σ g1 fun x g2 => i c σ g2 fun y g3 => sixR x y v g3 (nx σ)) := ⟨id⟩
instance : Step (iVal a c σ g R) (a c σ g fun x g1 => wkV c.kl x g1 R) := ⟨id⟩
instance {z : Str} : Step (wkV kl (.str z) g R) (R (.str z) g) := ⟨id⟩
instance {p : Addr} {xs : List V} [e : At g p (.lst xs)] : Step (wkV kl (.ref p) g R) (R (.lst p xs) g) := ⟨fun h => .inl ⟨xs, .inl e.h, h⟩⟩
instance (priority := 1500) {p : Addr} {xs : List V} [e : At g p (.tup xs)] : Step (wkV kl (.ref p) g R) (R (.tup p xs) g) := ⟨fun h => .inr ⟨xs, e.h, h⟩⟩
instance : Step (iRng1 a c σ g R) (a c σ g fun x g1 => ∃ j : Int, x = .int j ∧ -(2 ^ 62) ≤ j ∧ j < 2 ^ 62 ∧ R (.rng 0 1 j.toNat) g1) := ⟨id⟩
instance : Step (iRng2 a b c σ g R) (a c σ g fun x g1 => b c σ g1 fun y g2 => ∃ i j : Int, x = .int i ∧ y = .int j ∧ -(2 ^ 62) ≤ i ∧ i < 2 ^ 62 ∧ -(2 ^ 62) ≤ j ∧ j < 2 ^ 62 ∧ R (.rng i 1 (j - i).toNat) g2) := ⟨id⟩
instance : Step (iRng3 a b t c σ g R) (a c σ g fun x g1 => b c σ g1 fun y g2 => t c σ g2 fun z g3 => ∃ (i j s : Int) (n : Nat), x = .int i ∧ y = .int j ∧ z = .int s ∧ RgC i j s n ∧ R (.rng i s n) g3) := ⟨id⟩
instance : Step (iEnm a c σ g R) (a c σ g fun x g1 => ∃ p xs, x = .ref p ∧ Ls c.kl g1 p xs ∧ R (.enm p xs) g1) := ⟨id⟩
instance : Step (iZip a b c σ g R) (a c σ g fun x g1 => b c σ g1 fun y g2 => ∃ p q xs ys, x = .ref p ∧ y = .ref q ∧ Ls c.kl g2 p xs ∧ Ls c.kl g2 q ys ∧ R (.zip p q xs ys) g2) := ⟨id⟩
instance {p q : Addr} {xs ys : List V} [e : At g p (.lst xs)] [e2 : At g q (.lst ys)] : Step (∃ p' q' xs ys, V.ref p = .ref p' ∧ V.ref q = .ref q' ∧ Ls kl g p' xs ∧ Ls kl g q' ys ∧ R (.zip p' q' xs ys) g) (R (.zip p q xs ys) g) := ⟨fun h => ⟨p, q, xs, ys, rfl, rfl, .inl e.h, .inl e2.h, h⟩⟩
instance {p : Addr} {xs : List V} [e : At g p (.lst xs)] : Step (∃ p' xs, V.ref p = .ref p' ∧ Ls kl g p' xs ∧ R (.enm p' xs) g) (R (.enm p xs) g) := ⟨fun h => ⟨p, xs, rfl, .inl e.h, h⟩⟩
instance {src : TI} {tg : TTg} {own : List Nat} : Step (eLc src tg x a own c σ g Q) (src c σ g fun S g1 => lcR tg x a own c σ Q S g1) := ⟨id⟩
instance {src : TI} {tg : TTg} : Step (sFor src tg s c D σ g) (src c σ g fun S g1 => forR tg s c D σ S g1) := ⟨id⟩
instance {i n : Nat} {lo st : Int} {R : V → G → Prop} : Step (Sq.item i g R (.rng lo st n)) (R (.int (lo + (i : Nat) * st)) g) := ⟨id⟩
instance {i : Nat} {p : Addr} {xs : List V} {R : V → G → Prop} : Step (Sq.item i g R (.lst p xs)) (∀ x, xs[i]? = some x → R x g) := ⟨id⟩
instance {i : Nat} {p : Addr} {xs : List V} {R : V → G → Prop} : Step (Sq.item i g R (.tup p xs)) (∀ x, xs[i]? = some x → R x g) := ⟨id⟩
instance {i : Nat} {z : Str} {R : V → G → Prop} : Step (Sq.item i g R (.str z)) (∀ c, z.cps[i]? = some c → R (.str ⟨#[c]⟩) g) := ⟨id⟩
instance {i : Nat} {p : Addr} {xs : List V} {R : V → G → Prop} : Step (Sq.item i g R (.enm p xs)) (∀ q x, xs[i]? = some x → g q = none → R (.ref q) (gu g q (.tup [.int (i : Nat), x]))) := ⟨id⟩
instance {i : Nat} {p q : Addr} {xs ys : List V} {R : V → G → Prop} : Step (Sq.item i g R (.zip p q xs ys)) (∀ r x y, xs[i]? = some x → ys[i]? = some y → g r = none → R (.ref r) (gu g r (.tup [x, y]))) := ⟨id⟩
theorem range_fm {α : Type} (fs : Nat → Option α) (i : Nat) : (List.range (i + 1)).filterMap fs = (List.range i).filterMap fs ++ (fs i).toList := by
  rw [List.range_succ, List.filterMap_append]
  cases h : fs i <;> simp [h]
theorem fm_len {α : Type} (fs : Nat → Option α) : ∀ i, ((List.range i).filterMap fs).length ≤ i
  | 0 => by simp
  | i + 1 => by
    rw [range_fm, List.length_append]
    have := fm_len fs i
    cases fs i <;> simp <;> omega
/-- a comprehension whose turns leave no more than garbage -/
theorem lc_of {tg : TTg} {own : List Nat} {S : Sq} (fs : Nat → Option V) (hz : S.len ≤ sizeLine) (hok : ∀ D acc, g D = none → S.ok kl (gu g D (.lst acc)))
    (st : ∀ D i, g D = none → i < S.len → ∀ (KY : V → G → Prop) (KN : G → Prop), (∀ w g6, fs i = some w → Sub (gu g D (.lst ((List.range i).filterMap fs))) g6 → KY w g6) →
      (∀ g5, fs i = none → Sub (gu g D (.lst ((List.range i).filterMap fs))) g5 → KN g5) →
      S.item i (gu g D (.lst ((List.range i).filterMap fs))) fun v g3 => tg ⟨kl, fn, er⟩ v (wipe σ own) g3 fun σ4 g4 => wipe σ4 own = wipe σ own ∧ x ⟨kl, fn, fun _ _ _ => False⟩ σ4 g4 fun b g5 => if b = true then a ⟨kl, fn, fun _ _ _ => False⟩ σ4 g5 KY else KN g5)
    (q : ∀ D, g D = none → Q (.ref D) (gu g D (.lst ((List.range S.len).filterMap fs)))) : lcR tg x a own ⟨kl, fn, er⟩ σ Q S g := by
  intro D hD
  refine ⟨fun i acc g2 => i ≤ S.len ∧ acc = (List.range i).filterMap fs ∧ g2 = gu g D (.lst acc), ⟨Nat.zero_le _, by simp, rfl⟩, ?_⟩
  rintro i acc g2 ⟨hi, rfl, rfl⟩
  refine ⟨hok D _ hD, gus, ?_⟩
  split
  · rename_i h
    refine st D i hD h _ _ (fun w g6 hw hs => ?_) (fun g5 hw hs => ?_)
    · refine ⟨hs D _ gus, Nat.lt_of_le_of_lt (fm_len fs i) (by omega), gu g D (.lst ((List.range i).filterMap fs ++ [w])), ?_, h, by rw [range_fm, hw]; rfl, rfl⟩
      intro b o hb
      unfold SW.gu at hb ⊢
      split
      · rename_i e; rw [if_pos e] at hb; exact hb
      · rename_i e
        rw [if_neg e] at hb
        exact hs b o (by rw [gun e]; exact hb)
    · exact ⟨_, hs, h, by rw [range_fm, hw]; simp, rfl⟩
  · rename_i h
    have : i = S.len := by omega
    subst this
    exact q D hD
end
theorem ifT {A B : Prop} (h : A) : if true = true then A else B := by rw [if_pos rfl]; exact h
theorem ifF {A B : Prop} (h : B) : if false = true then A else B := by rw [if_neg Bool.false_ne_true]; exact h
theorem ifD {p A B : Prop} [Decidable p] (hp : p) (h : A) : if decide p = true then A else B := by rw [decide_eq_true hp]; exact ifT h
theorem ifDn {p A B : Prop} [Decidable p] (hp : ¬ p) (h : B) : if decide p = true then A else B := by rw [decide_eq_false hp]; exact ifF h
theorem ifN {p A B : Prop} [Decidable p] (hp : ¬ p) (h : A) : if (!decide p) = true then A else B := by rw [decide_eq_false hp]; exact ifT h
theorem ifNn {p A B : Prop} [Decidable p] (hp : p) (h : B) : if (!decide p) = true then A else B := by rw [decide_eq_true hp]; exact ifF h
theorem ifB {b : Bool} {A B : Prop} (hb : b = true) (h : A) : if b = true then A else B := by rw [hb]; exact ifT h
theorem ifBn {b : Bool} {A B : Prop} (hb : b = false) (h : B) : if b = true then A else B := by rw [hb]; exact ifF h
end SW
end

section
set_option Elab.async false
set_option linter.all false
set_option maxRecDepth 100000
set_option maxHeartbeats 4000000
/-! The Shelf's methods on the objects of a shelf. -/
namespace SW
open PySem L2
set_option synthInstance.maxHeartbeats 200000
set_option synthInstance.maxSize 100000
theorem pcK_inj : ∀ {x y : Sum Str (Nat × Nat)}, pcK x = pcK y → x = y
  | .inl a, .inl b, h => by simp [pcK] at h; rw [h]
  | .inr (a, b), .inr (c, d), h => by
    simp only [pcK, List.cons.injEq, Sum.inl.injEq, and_true, true_and] at h
    obtain ⟨h1, h2⟩ := h
    have e1 : a = c := by exact_mod_cast h1
    have e2 : b = d := by exact_mod_cast h2
    rw [e1, e2]
  | .inl a, .inr (c, d), h => by simp [pcK] at h
  | .inr (a, b), .inl d, h => by simp [pcK] at h
theorem valV_shD : ∀ {S : Sh} {n : Nat} {pc : Sum Str (Nat × Nat)}, valV (shD n S) (pcK pc) = (lkF n S pc).map fun (i : Nat) => V.int i
  | [], n, pc => rfl
  | r :: S, n, pc => by
    unfold shD lkF
    by_cases e : r.pc = pc
    · rw [if_pos e, valV_pos (congrArg pcK e)]; simp
    · rw [if_neg e, valV_neg (fun z => e (pcK_inj z))]; exact valV_shD
theorem shD_app : ∀ {S : Sh} {n : Nat} {r : PRec}, shD n (S ++ [r]) = shD n S ++ [(pcK r.pc, .int ((n + S.length : Nat) + 1 : Int))]
  | [], n, r => by simp [shD]
  | q :: S, n, r => by
    rw [List.cons_append]
    unfold shD
    rw [shD_app, List.cons_append, List.length_cons]
    congr 5
    omega
theorem shD_len : ∀ {S : Sh} {n : Nat}, (shD n S).length = S.length
  | [], n => rfl
  | q :: S, n => by unfold shD; simp [shD_len]
theorem putK_shD {S : Sh} {r : PRec} (h : lkP S r.pc = none) : putK (shD 0 S) (pcK r.pc) (.int ((S.length : Int) + 1)) = shD 0 (S ++ [r]) := by
  unfold putK
  rw [valV_any, valV_shD]
  rw [show lkF 0 S r.pc = none from h]
  rw [Option.map_none, Option.isSome_none, if_neg Bool.false_ne_true, shD_app]
  simp
/-- no promise -/
def bz : Nat → SpG := fun _ _ _ _ _ => False
class ShD (defs : Nat → Option FDef) : Prop where
  h2 : defs 2 = some d_is_plain
  h4 : defs 4 = some d_ends_in
  h9 : defs 9 = some d_Shelf___init__
  h10 : defs 10 = some d_Shelf_want
  h11 : defs 11 = some d_Shelf_want_piece
  h12 : defs 12 = some d_Shelf_many
  h13 : defs 13 = some d_Shelf_piece
  h14 : defs 14 = some d_Shelf_signs
  h15 : defs 15 = some d_Shelf_ends
  h16 : defs 16 = some d_Shelf_leaves
  h17 : defs 17 = some d_Shelf_height
  h18 : defs 18 = some d_Shelf_first_leaf
  h19 : defs 19 = some d_Shelf_last_leaf
  h20 : defs 20 = some d_Shelf_laid
  h21 : defs 21 = some d_Shelf_leaf
  h22 : defs 22 = some d_Shelf_fork
  h23 : defs 23 = some d_Shelf_is_loose
section
variable {kl : Addr → List V → Prop} {bs : Nat → SpG} {defs : Nat → Option FDef} {k : Nat} {g : G} {Q : VG} {E : XG} [hd : ShD defs] {a a1 a2 a3 a4 a5 a6 a7 a8 : Addr} {S : Sh} {ts : List Addr}
theorem z_want {vs : List V} {r : List (Nat × V)} [h0 : At g a (.ins 0 ((0, .ref a1) :: r))] [h1 : At g a1 (.lst vs)] {t : Nat} (ht : t < vs.length) (q : Q .non g) : Gam kl bs defs (k + 1) 10 [.ref a, .int t] g Q E := by
  refine gam_of hd.h10 rfl ?_
  show b_Shelf_want _ _ [some (.ref a), some (.int t)] _
  unfold b_Shelf_want
  repeat refine go ?_
  rw [decide_eq_true (show (0 : Int) ≤ (t : Int) by omega)]
  repeat refine go ?_
  rw [decide_eq_true (show (t : Int) < (vs.length : Int) by omega)]
  repeat refine go ?_
  exact ⟨g, Sub.refl g, q⟩
theorem z_want_piece {vs : List V} {r : List (Nat × V)} [h0 : At g a (.ins 0 ((0, .ref a1) :: r))] [h1 : At g a1 (.lst vs)] {t : Nat} (h0' : 0 < t) (ht : t < vs.length) (q : Q .non g) : Gam kl bs defs (k + 1) 11 [.ref a, .int t] g Q E := by
  refine gam_of hd.h11 rfl ?_
  show b_Shelf_want_piece _ _ [some (.ref a), some (.int t)] _
  unfold b_Shelf_want_piece
  repeat refine go ?_
  rw [decide_eq_true (show (0 : Int) < (t : Int) by omega)]
  repeat refine go ?_
  rw [decide_eq_true (show (t : Int) < (vs.length : Int) by omega)]
  repeat refine go ?_
  exact ⟨g, Sub.refl g, q⟩
theorem z_many {vs : List V} {r : List (Nat × V)} [h0 : At g a (.ins 0 ((0, .ref a1) :: r))] [h1 : At g a1 (.lst vs)] (q : Q (.int ((vs.length : Int) - 1)) g) : Gam kl bs defs (k + 1) 12 [.ref a] g Q E := by
  refine gam_of hd.h12 rfl ?_
  show b_Shelf_many _ _ [some (.ref a)] _
  unfold b_Shelf_many
  repeat refine go ?_
  exact ⟨g, Sub.refl g, q⟩
theorem z_signs {vs ws : List V} {v : V} [h0 : At g a (.ins 0 [(0, .ref a1), (1, .ref a2), (2, .ref a3), (3, .ref a4), (4, .ref a5), (5, .ref a6), (6, .ref a7), (7, .ref a8)])] [h1 : At g a1 (.lst vs)] [h3 : At g a3 (.lst ws)] {t : Nat} (ht : t < vs.length) (hv : atI ws (t : Int) = some v) (q : Q v g) : Gam kl bs defs (k + 2) 14 [.ref a, .int t] g Q E := by
  refine gam_of hd.h14 rfl ?_
  show b_Shelf_signs _ _ [some (.ref a), some (.int t)] _
  unfold b_Shelf_signs
  repeat refine go ?_
  refine z_want ht ?_
  repeat refine go ?_
  exact ⟨v, hv, g, Sub.refl g, q⟩
theorem z_ends {vs ws : List V} {v : V} [h0 : At g a (.ins 0 [(0, .ref a1), (1, .ref a2), (2, .ref a3), (3, .ref a4), (4, .ref a5), (5, .ref a6), (6, .ref a7), (7, .ref a8)])] [h1 : At g a1 (.lst vs)] [h3 : At g a4 (.lst ws)] {t : Nat} (ht : t < vs.length) (hv : atI ws (t : Int) = some v) (q : Q v g) : Gam kl bs defs (k + 2) 15 [.ref a, .int t] g Q E := by
  refine gam_of hd.h15 rfl ?_
  show b_Shelf_ends _ _ [some (.ref a), some (.int t)] _
  unfold b_Shelf_ends
  repeat refine go ?_
  refine z_want ht ?_
  repeat refine go ?_
  exact ⟨v, hv, g, Sub.refl g, q⟩
theorem z_leaves {vs ws : List V} {v : V} [h0 : At g a (.ins 0 [(0, .ref a1), (1, .ref a2), (2, .ref a3), (3, .ref a4), (4, .ref a5), (5, .ref a6), (6, .ref a7), (7, .ref a8)])] [h1 : At g a1 (.lst vs)] [h3 : At g a5 (.lst ws)] {t : Nat} (ht : t < vs.length) (hv : atI ws (t : Int) = some v) (q : Q v g) : Gam kl bs defs (k + 2) 16 [.ref a, .int t] g Q E := by
  refine gam_of hd.h16 rfl ?_
  show b_Shelf_leaves _ _ [some (.ref a), some (.int t)] _
  unfold b_Shelf_leaves
  repeat refine go ?_
  refine z_want ht ?_
  repeat refine go ?_
  exact ⟨v, hv, g, Sub.refl g, q⟩
theorem z_height {vs ws : List V} {v : V} [h0 : At g a (.ins 0 [(0, .ref a1), (1, .ref a2), (2, .ref a3), (3, .ref a4), (4, .ref a5), (5, .ref a6), (6, .ref a7), (7, .ref a8)])] [h1 : At g a1 (.lst vs)] [h3 : At g a6 (.lst ws)] {t : Nat} (ht : t < vs.length) (hv : atI ws (t : Int) = some v) (q : Q v g) : Gam kl bs defs (k + 2) 17 [.ref a, .int t] g Q E := by
  refine gam_of hd.h17 rfl ?_
  show b_Shelf_height _ _ [some (.ref a), some (.int t)] _
  unfold b_Shelf_height
  repeat refine go ?_
  refine z_want ht ?_
  repeat refine go ?_
  exact ⟨v, hv, g, Sub.refl g, q⟩
theorem z_first_leaf {vs ws : List V} {v : V} [h0 : At g a (.ins 0 [(0, .ref a1), (1, .ref a2), (2, .ref a3), (3, .ref a4), (4, .ref a5), (5, .ref a6), (6, .ref a7), (7, .ref a8)])] [h1 : At g a1 (.lst vs)] [h3 : At g a7 (.lst ws)] {t : Nat} (ht : t < vs.length) (hv : atI ws (t : Int) = some v) (q : Q v g) : Gam kl bs defs (k + 2) 18 [.ref a, .int t] g Q E := by
  refine gam_of hd.h18 rfl ?_
  show b_Shelf_first_leaf _ _ [some (.ref a), some (.int t)] _
  unfold b_Shelf_first_leaf
  repeat refine go ?_
  refine z_want ht ?_
  repeat refine go ?_
  exact ⟨v, hv, g, Sub.refl g, q⟩
theorem z_last_leaf {vs ws : List V} {v : V} [h0 : At g a (.ins 0 [(0, .ref a1), (1, .ref a2), (2, .ref a3), (3, .ref a4), (4, .ref a5), (5, .ref a6), (6, .ref a7), (7, .ref a8)])] [h1 : At g a1 (.lst vs)] [h3 : At g a8 (.lst ws)] {t : Nat} (ht : t < vs.length) (hv : atI ws (t : Int) = some v) (q : Q v g) : Gam kl bs defs (k + 2) 19 [.ref a, .int t] g Q E := by
  refine gam_of hd.h19 rfl ?_
  show b_Shelf_last_leaf _ _ [some (.ref a), some (.int t)] _
  unfold b_Shelf_last_leaf
  repeat refine go ?_
  refine z_want ht ?_
  repeat refine go ?_
  exact ⟨v, hv, g, Sub.refl g, q⟩
theorem z_piece {vs : List V} {v : V} {r : List (Nat × V)} [h0 : At g a (.ins 0 ((0, .ref a1) :: r))] [h1 : At g a1 (.lst vs)] {t : Nat} (h0' : 0 < t) (ht : t < vs.length) (hv : atI vs (t : Int) = some v) (q : Q v g) : Gam kl bs defs (k + 2) 13 [.ref a, .int t] g Q E := by
  refine gam_of hd.h13 rfl ?_
  show b_Shelf_piece _ _ [some (.ref a), some (.int t)] _
  unfold b_Shelf_piece
  repeat refine go ?_
  refine z_want_piece h0' ht ?_
  repeat refine go ?_
  exact ⟨v, hv, g, Sub.refl g, q⟩
theorem z_is_loose {ws us vs : List V} {i j : Nat} {x y : Int} {s t : Nat} [h0 : At g a (.ins 0 [(0, .ref a1), (1, .ref a2), (2, .ref a3), (3, .ref a4), (4, .ref a5), (5, .ref a6), (6, .ref a7), (7, .ref a8)])] [h3 : At g a3 (.lst ws)] [h7 : At g a7 (.lst us)] [h8 : At g a8 (.lst vs)]
    (e1 : atI vs (s : Int) = some (.int i)) (e2 : atI ws (i : Int) = some (.int x)) (e3 : atI us (t : Int) = some (.int j)) (e4 : atI ws (j : Int) = some (.int y)) (q : Q (.bl (decide (x + y ≤ 8))) g) : Gam kl bs defs (k + 1) 23 [.ref a, .int s, .int t] g Q E := by
  refine gam_of hd.h23 rfl ?_
  show b_Shelf_is_loose _ _ [some (.ref a), some (.int s), some (.int t)] _
  unfold b_Shelf_is_loose
  repeat refine go ?_
  refine ⟨_, e1, ?_⟩
  repeat refine go ?_
  refine ⟨_, e2, ?_⟩
  repeat refine go ?_
  refine ⟨_, e3, ?_⟩
  repeat refine go ?_
  refine ⟨_, e4, ?_⟩
  repeat refine go ?_
  exact ⟨g, Sub.refl g, q⟩
end
end SW
end

section
set_option Elab.async false
set_option linter.all false
set_option maxRecDepth 100000
set_option maxHeartbeats 4000000
/-! The Shelf's methods that lay pieces. -/
namespace SW
open PySem L2
set_option synthInstance.maxHeartbeats 200000
set_option synthInstance.maxSize 100000
theorem cps_sp : (" " : Str) = ⟨#[32]⟩ := by kernel_rfl
theorem cps_ti : ("~" : Str) = ⟨#[126]⟩ := by kernel_rfl
theorem cps_nl : ("\n" : Str) = ⟨#[10]⟩ := by kernel_rfl
theorem lt1 {a b : Nat} : decide ([a] < [b]) = decide (a < b) := by
  refine decide_eq_decide.mpr ?_
  constructor
  · intro h
    cases h with
    | rel h => exact h
    | cons h => cases h
  · exact fun h => .rel h
theorem fm_take {α β : Type} (xs : List α) (f : α → β) : ∀ i, i ≤ xs.length → (List.range i).filterMap (fun i => (xs[i]?).map f) = (xs.take i).map f
  | 0, _ => by simp
  | i + 1, h => by
    rw [range_fm, fm_take xs f i (by omega), List.take_add_one, List.map_append]
    have hi : i < xs.length := by omega
    simp [hi]
theorem fm_all {α β : Type} (xs : List α) (f : α → β) {n : Nat} (h : n = xs.length) : (List.range n).filterMap (fun i => (xs[i]?).map f) = xs.map f := by
  rw [fm_take xs f n (by omega), h, List.take_length]
section
variable {kl : Addr → List V → Prop} {bs : Nat → SpG} {defs : Nat → Option FDef} {k : Nat} {g : G} {Q : VG} {E : XG} {a a1 a2 a3 a4 a5 a6 a7 a8 : Addr} {S : Sh} {ts : List Addr}
def pl1 (c : Nat) : Bool := (decide (32 ≤ c) && decide (c ≤ 126)) || decide (c = 10)
theorem z_is_plain' (h2 : defs 2 = some d_is_plain) {x : Str} (hl : x.cps.size ≤ sizeLine) (q : Q (.bl (plainB x)) g) : Gam kl bs defs (k + 1) 2 [.str x] g Q E := by
  refine gam_of h2 rfl ?_
  show b_is_plain _ _ [some (.str x), none] _
  unfold b_is_plain
  repeat refine go ?_
  refine lc_of (fun i => (x.cps.toList[i]?).map fun c => V.bl (pl1 c)) hl (fun _ _ _ => trivial) (fun D i hD hi KY KN hy hn => ?_) (fun D hD => ?_)
  · intro c hc
    have hc' : x.cps.toList[i]? = some c := by rw [Array.getElem?_toList]; exact hc
    show (gN 1) _ _ [some (.str x), none] _ _
    repeat refine go ?_
    refine ⟨rfl, ?_⟩
    repeat refine go ?_
    have e1 : (!decide (({ cps := #[c] } : Str).cps.toList < (Str.ofString " ").cps.toList)) = decide (32 ≤ c) := by
      rw [show (Str.ofString " ") = ⟨#[32]⟩ from cps_sp, lt1, Bool.eq_iff_iff]; simp
    have e2 : (!decide ((Str.ofString "~").cps.toList < ({ cps := #[c] } : Str).cps.toList)) = decide (c ≤ 126) := by
      rw [show (Str.ofString "~") = ⟨#[126]⟩ from cps_ti, lt1, Bool.eq_iff_iff]; simp
    have e3 : decide (({ cps := #[c] } : Str) = Str.ofString "\n") = decide (c = 10) := by
      rw [show (Str.ofString "\n") = ⟨#[10]⟩ from cps_nl]; simp
    have fin : ∀ b, b = pl1 c → KY (.bl b) (gu g D (O.lst ((List.range i).filterMap fun i => (x.cps.toList[i]?).map fun c => V.bl (pl1 c)))) := fun b hb => hy _ _ (by rw [hc', hb]; rfl) (Sub.refl _)
    rw [e1]
    by_cases c1 : 32 ≤ c
    · rw [decide_eq_true c1]
      repeat refine go ?_
      rw [e2]
      by_cases c2 : c ≤ 126
      · rw [decide_eq_true c2]
        repeat refine go ?_
        exact fin _ (by simp [pl1, c1, c2])
      · rw [decide_eq_false c2]
        repeat refine go ?_
        rw [e3]
        exact fin _ (by simp [pl1, c1, c2])
    · rw [decide_eq_false c1]
      repeat refine go ?_
      rw [e3]
      exact fin _ (by simp [pl1, c1])
  · have e : (List.range (Sq.str x).len).filterMap (fun i => (x.cps.toList[i]?).map fun c => V.bl (pl1 c)) = (x.cps.toList.map pl1).map V.bl := by
      rw [fm_all x.cps.toList _ (by simp [Sq.len]), List.map_map]; rfl
    rw [e]
    repeat refine go ?_
    refine ⟨D, x.cps.toList.map pl1, rfl, .inl gus, ?_⟩
    refine ⟨g, Sub.new hD, ?_⟩
    have : (x.cps.toList.map pl1).all id = plainB x := by rw [List.all_map]; rfl
    rw [this]
    exact q
variable [hd : ShD defs]
theorem z_is_plain {x : Str} (hl : x.cps.size ≤ sizeLine) (q : Q (.bl (plainB x)) g) : Gam kl bs defs (k + 1) 2 [.str x] g Q E := z_is_plain' hd.h2 hl q
theorem z_ends_in {x : Str} (q : Q (.int (nlN x)) g) : Gam kl bs defs (k + 1) 4 [.str x] g Q E := by
  refine gam_of hd.h4 rfl ?_
  show b_ends_in _ _ [some (.str x)] _
  unfold b_ends_in
  repeat refine go ?_
  rw [nlN_eq] at q
  exact ⟨g, Sub.refl g, q⟩
/-- nine objects -/
class Dis (a a1 a2 a3 a4 a5 a6 a7 a8 : Addr) : Prop where
  h01 : NeA a a1
  h02 : NeA a a2
  h03 : NeA a a3
  h04 : NeA a a4
  h05 : NeA a a5
  h06 : NeA a a6
  h07 : NeA a a7
  h08 : NeA a a8
  h10 : NeA a1 a
  h12 : NeA a1 a2
  h13 : NeA a1 a3
  h14 : NeA a1 a4
  h15 : NeA a1 a5
  h16 : NeA a1 a6
  h17 : NeA a1 a7
  h18 : NeA a1 a8
  h20 : NeA a2 a
  h21 : NeA a2 a1
  h23 : NeA a2 a3
  h24 : NeA a2 a4
  h25 : NeA a2 a5
  h26 : NeA a2 a6
  h27 : NeA a2 a7
  h28 : NeA a2 a8
  h30 : NeA a3 a
  h31 : NeA a3 a1
  h32 : NeA a3 a2
  h34 : NeA a3 a4
  h35 : NeA a3 a5
  h36 : NeA a3 a6
  h37 : NeA a3 a7
  h38 : NeA a3 a8
  h40 : NeA a4 a
  h41 : NeA a4 a1
  h42 : NeA a4 a2
  h43 : NeA a4 a3
  h45 : NeA a4 a5
  h46 : NeA a4 a6
  h47 : NeA a4 a7
  h48 : NeA a4 a8
  h50 : NeA a5 a
  h51 : NeA a5 a1
  h52 : NeA a5 a2
  h53 : NeA a5 a3
  h54 : NeA a5 a4
  h56 : NeA a5 a6
  h57 : NeA a5 a7
  h58 : NeA a5 a8
  h60 : NeA a6 a
  h61 : NeA a6 a1
  h62 : NeA a6 a2
  h63 : NeA a6 a3
  h64 : NeA a6 a4
  h65 : NeA a6 a5
  h67 : NeA a6 a7
  h68 : NeA a6 a8
  h70 : NeA a7 a
  h71 : NeA a7 a1
  h72 : NeA a7 a2
  h73 : NeA a7 a3
  h74 : NeA a7 a4
  h75 : NeA a7 a5
  h76 : NeA a7 a6
  h78 : NeA a7 a8
  h80 : NeA a8 a
  h81 : NeA a8 a1
  h82 : NeA a8 a2
  h83 : NeA a8 a3
  h84 : NeA a8 a4
  h85 : NeA a8 a5
  h86 : NeA a8 a6
  h87 : NeA a8 a7
section
variable {p : Addr} {vs w3 w4 w5 w6 w7 w8 : List V} {r : PRec}
theorem z_laid (dd : Dis a a1 a2 a3 a4 a5 a6 a7 a8) [h0 : At g a (.ins 0 [(0, .ref a1), (1, .ref a2), (2, .ref a3), (3, .ref a4), (4, .ref a5), (5, .ref a6), (6, .ref a7), (7, .ref a8)])] [h1 : At g a1 (.lst vs)] [h2 : At g a2 (.dT (shD 0 S))] [h3 : At g a3 (.lst w3)] [h4 : At g a4 (.lst w4)] [h5 : At g a5 (.lst w5)] [h6 : At g a6 (.lst w6)] [hp : At g p (.tup ((pcK r.pc).map kV))] {x3 x4 x5 x6 : V}
    (l1 : vs.length = S.length + 1) (l3 : w3.length = S.length + 1) (l4 : w4.length = S.length + 1) (l5 : w5.length = S.length + 1) (l6 : w6.length = S.length + 1) (hz : S.length + 2 < sizeLine) (hn : lkP S r.pc = none)
    (q : Q (.int ((S.length : Int) + 1)) (gu (gu (gu (gu (gu (gu g a1 (.lst (vs ++ [.ref p]))) a2 (.dT (shD 0 (S ++ [r])))) a3 (.lst (w3 ++ [x3]))) a4 (.lst (w4 ++ [x4]))) a5 (.lst (w5 ++ [x5]))) a6 (.lst (w6 ++ [x6])))) :
    Gam kl bs defs (k + 1) 20 [.ref a, .ref p, x3, x4, x5, x6] g Q E := by
  haveI n_a_a1 : NeA a a1 := dd.h01
  haveI n_a_a2 : NeA a a2 := dd.h02
  haveI n_a_a3 : NeA a a3 := dd.h03
  haveI n_a_a4 : NeA a a4 := dd.h04
  haveI n_a_a5 : NeA a a5 := dd.h05
  haveI n_a_a6 : NeA a a6 := dd.h06
  haveI n_a_a7 : NeA a a7 := dd.h07
  haveI n_a_a8 : NeA a a8 := dd.h08
  haveI n_a1_a : NeA a1 a := dd.h10
  haveI n_a1_a2 : NeA a1 a2 := dd.h12
  haveI n_a1_a3 : NeA a1 a3 := dd.h13
  haveI n_a1_a4 : NeA a1 a4 := dd.h14
  haveI n_a1_a5 : NeA a1 a5 := dd.h15
  haveI n_a1_a6 : NeA a1 a6 := dd.h16
  haveI n_a1_a7 : NeA a1 a7 := dd.h17
  haveI n_a1_a8 : NeA a1 a8 := dd.h18
  haveI n_a2_a : NeA a2 a := dd.h20
  haveI n_a2_a1 : NeA a2 a1 := dd.h21
  haveI n_a2_a3 : NeA a2 a3 := dd.h23
  haveI n_a2_a4 : NeA a2 a4 := dd.h24
  haveI n_a2_a5 : NeA a2 a5 := dd.h25
  haveI n_a2_a6 : NeA a2 a6 := dd.h26
  haveI n_a2_a7 : NeA a2 a7 := dd.h27
  haveI n_a2_a8 : NeA a2 a8 := dd.h28
  haveI n_a3_a : NeA a3 a := dd.h30
  haveI n_a3_a1 : NeA a3 a1 := dd.h31
  haveI n_a3_a2 : NeA a3 a2 := dd.h32
  haveI n_a3_a4 : NeA a3 a4 := dd.h34
  haveI n_a3_a5 : NeA a3 a5 := dd.h35
  haveI n_a3_a6 : NeA a3 a6 := dd.h36
  haveI n_a3_a7 : NeA a3 a7 := dd.h37
  haveI n_a3_a8 : NeA a3 a8 := dd.h38
  haveI n_a4_a : NeA a4 a := dd.h40
  haveI n_a4_a1 : NeA a4 a1 := dd.h41
  haveI n_a4_a2 : NeA a4 a2 := dd.h42
  haveI n_a4_a3 : NeA a4 a3 := dd.h43
  haveI n_a4_a5 : NeA a4 a5 := dd.h45
  haveI n_a4_a6 : NeA a4 a6 := dd.h46
  haveI n_a4_a7 : NeA a4 a7 := dd.h47
  haveI n_a4_a8 : NeA a4 a8 := dd.h48
  haveI n_a5_a : NeA a5 a := dd.h50
  haveI n_a5_a1 : NeA a5 a1 := dd.h51
  haveI n_a5_a2 : NeA a5 a2 := dd.h52
  haveI n_a5_a3 : NeA a5 a3 := dd.h53
  haveI n_a5_a4 : NeA a5 a4 := dd.h54
  haveI n_a5_a6 : NeA a5 a6 := dd.h56
  haveI n_a5_a7 : NeA a5 a7 := dd.h57
  haveI n_a5_a8 : NeA a5 a8 := dd.h58
  haveI n_a6_a : NeA a6 a := dd.h60
  haveI n_a6_a1 : NeA a6 a1 := dd.h61
  haveI n_a6_a2 : NeA a6 a2 := dd.h62
  haveI n_a6_a3 : NeA a6 a3 := dd.h63
  haveI n_a6_a4 : NeA a6 a4 := dd.h64
  haveI n_a6_a5 : NeA a6 a5 := dd.h65
  haveI n_a6_a7 : NeA a6 a7 := dd.h67
  haveI n_a6_a8 : NeA a6 a8 := dd.h68
  haveI n_a7_a : NeA a7 a := dd.h70
  haveI n_a7_a1 : NeA a7 a1 := dd.h71
  haveI n_a7_a2 : NeA a7 a2 := dd.h72
  haveI n_a7_a3 : NeA a7 a3 := dd.h73
  haveI n_a7_a4 : NeA a7 a4 := dd.h74
  haveI n_a7_a5 : NeA a7 a5 := dd.h75
  haveI n_a7_a6 : NeA a7 a6 := dd.h76
  haveI n_a7_a8 : NeA a7 a8 := dd.h78
  haveI n_a8_a : NeA a8 a := dd.h80
  haveI n_a8_a1 : NeA a8 a1 := dd.h81
  haveI n_a8_a2 : NeA a8 a2 := dd.h82
  haveI n_a8_a3 : NeA a8 a3 := dd.h83
  haveI n_a8_a4 : NeA a8 a4 := dd.h84
  haveI n_a8_a5 : NeA a8 a5 := dd.h85
  haveI n_a8_a6 : NeA a8 a6 := dd.h86
  haveI n_a8_a7 : NeA a8 a7 := dd.h87
  haveI np1 : NeA a1 p := NeA.of_at h1 hp (fun z => nomatch z)
  haveI np2 : NeA p a1 := NeA.symm np1
  refine gam_of hd.h20 rfl ?_
  show b_Shelf_laid _ _ [some (.ref a), some (.ref p), some x3, some x4, some x5, some x6, none] _
  unfold b_Shelf_laid
  repeat refine go ?_
  refine ⟨by omega, ?_⟩
  repeat refine go ?_
  refine ⟨a2, rfl, .inr ⟨_, .inr ⟨_, pcK r.pc, p, At.h, rfl, At.h, by rw [shD_len]; omega, rfl⟩, ?_⟩⟩
  have e : ((vs.length : Int)) = (S.length : Int) + 1 := by omega
  rw [e, putK_shD hn]
  repeat refine go ?_
  refine ⟨by omega, ?_⟩
  repeat refine go ?_
  refine ⟨by omega, ?_⟩
  repeat refine go ?_
  refine ⟨by omega, ?_⟩
  repeat refine go ?_
  refine ⟨by omega, ?_⟩
  repeat refine go ?_
  exact ⟨_, Sub.refl _, q⟩
end
end
end SW
end

section
set_option Elab.async false
set_option linter.all false
set_option maxRecDepth 100000
set_option maxHeartbeats 4000000
/-! Shelf.leaf, Shelf.fork, Shelf(). -/
namespace SW
open PySem L2
local macro_rules | `(tactic| walk_at "w") => `(tactic| repeat first | refine go ?_ | refine ifT ?_ | refine ifF ?_ | refine And.intro (by omega) ?_ | refine ifD (by omega) ?_ | refine ifDn (by omega) ?_ | refine ifN (by omega) ?_ | refine ifNn (by omega) ?_ | refine And.intro (by simp [sizeLine] <;> omega) ?_ | fail)
set_option synthInstance.maxHeartbeats 200000
set_option synthInstance.maxSize 100000
/-- a shelf's objects, open -/
structure Un (g : G) (a : Addr) (l : ShL) (ts : List Addr) (S : Sh) : Prop where
  len : ts.length = S.length
  tu : ∀ (i : Nat) (t : Addr) (r : PRec), ts[i]? = some t → S[i]? = some r → g t = some (.tup ((pcK r.pc).map kV))
  o0 : g a = some (.ins 0 l.fs)
  o1 : g l.a1 = some (.lst (.non :: ts.map V.ref))
  o2 : g l.a2 = some (.dT (shD 0 S))
  o3 : g l.a3 = some (.lst (.int 0 :: S.map fun r => .int r.sg))
  o4 : g l.a4 = some (.lst (.int 0 :: S.map fun r => .int r.en))
  o5 : g l.a5 = some (.lst (.int 0 :: S.map fun r => .int r.lv))
  o6 : g l.a6 = some (.lst (.int (-1) :: S.map fun r => .int r.ht))
  o7 : g l.a7 = some (.lst (.int 0 :: S.map fun r => .int r.fi))
  o8 : g l.a8 = some (.lst (.int 0 :: S.map fun r => .int r.la))
def Keep (g gX : G) (a : Addr) (l : ShL) : Prop := ∀ b o, b ≠ a → b ∉ l.all → g b = some o → gX b = some o
section
variable {g g' : G} {a p : Addr} {l : ShL} {ts : List Addr} {S : Sh} {r : PRec}
theorem inT {kl : Addr → List V → Prop} {a2 : Addr} {pc : Sum Str (Nat × Nat)} {QB : Bool → G → Prop} [h2 : At g a2 (.dT (shD 0 S))] (hp : g p = some (.tup ((pcK pc).map kV))) (q : QB (lkP S pc).isSome g) : cmpV kl .In (.ref p) (.ref a2) g QB :=
  Or.inl ⟨_, .inr ⟨_, pcK pc, p, h2.h, rfl, hp, rfl⟩, by rw [valV_shD, Option.isSome_map]; exact q⟩
theorem ixT {kl : Addr → List V → Prop} {a2 : Addr} {pc : Sum Str (Nat × Nat)} {Q : VG} {n : Nat} [h2 : At g a2 (.dT (shD 0 S))] (hp : g p = some (.tup ((pcK pc).map kV))) (hn : lkP S pc = some n) (q : Q (.int n) g) : ixV kl (.ref a2) (.ref p) g Q :=
  Or.inr ⟨_, .inr ⟨_, pcK pc, p, h2.h, rfl, hp, by rw [valV_shD, show lkF 0 S pc = some n from hn]; rfl⟩, q⟩
/-- the heap behind a new piece -/
def laidG (g : G) (l : ShL) (p : Addr) (S : Sh) (r : PRec) (ts : List Addr) : G :=
  gu (gu (gu (gu (gu (gu (gu (gu g l.a1 (.lst ((.non :: ts.map V.ref) ++ [.ref p]))) l.a2 (.dT (shD 0 (S ++ [r])))) l.a3 (.lst ((.int 0 :: S.map fun r => .int r.sg) ++ [.int r.sg]))) l.a4 (.lst ((.int 0 :: S.map fun r => .int r.en) ++ [.int r.en])))
    l.a5 (.lst ((.int 0 :: S.map fun r => .int r.lv) ++ [.int r.lv]))) l.a6 (.lst ((.int (-1) :: S.map fun r => .int r.ht) ++ [.int r.ht]))) l.a7 (.lst ((.int 0 :: S.map fun r => .int r.fi) ++ [.int r.fi]))) l.a8 (.lst ((.int 0 :: S.map fun r => .int r.la) ++ [.int r.la]))
abbrev DisL (a : Addr) (l : ShL) : Prop := Dis a l.a1 l.a2 l.a3 l.a4 l.a5 l.a6 l.a7 l.a8
theorem laid_un (dd : DisL a l) (u : Un g a l ts S) (hp : g p = some (.tup ((pcK r.pc).map kV))) : Un (laidG g l p S r ts) a l (ts ++ [p]) (S ++ [r]) := by
  obtain ⟨a1, a2, a3, a4, a5, a6, a7, a8⟩ := l
  have hne : ∀ b xs, g b = some (.tup xs) → laidG g ⟨a1, a2, a3, a4, a5, a6, a7, a8⟩ p S r ts b = some (.tup xs) := fun b xs hb => by
    have n : ∀ c o, g c = some o → (∀ ys, o ≠ .tup ys) → b ≠ c := fun c o hc ho e => by subst e; rw [hb] at hc; cases hc; exact ho _ rfl
    unfold laidG
    rw [gun (n _ _ u.o8 fun _ z => nomatch z), gun (n _ _ u.o7 fun _ z => nomatch z), gun (n _ _ u.o6 fun _ z => nomatch z), gun (n _ _ u.o5 fun _ z => nomatch z), gun (n _ _ u.o4 fun _ z => nomatch z), gun (n _ _ u.o3 fun _ z => nomatch z), gun (n _ _ u.o2 fun _ z => nomatch z), gun (n _ _ u.o1 fun _ z => nomatch z)]
    exact hb
  refine ⟨by simp [u.len], fun i t q h1 h2 => ?_, ?_, ?_, ?_, ?_, ?_, ?_, ?_, ?_, ?_⟩
  · by_cases hi : i < ts.length
    · rw [List.getElem?_append_left hi] at h1
      rw [List.getElem?_append_left (by rw [← u.len]; exact hi)] at h2
      exact hne _ _ (u.tu i t q h1 h2)
    · have hi' : i = ts.length := by
        have := (List.getElem?_eq_some_iff.mp h1).1
        simp at this; omega
      subst hi'
      simp at h1
      rw [u.len] at h2
      simp at h2
      subst h1 h2
      exact hne _ _ hp
  all_goals unfold laidG
  · rw [gun dd.h08.h, gun dd.h07.h, gun dd.h06.h, gun dd.h05.h, gun dd.h04.h, gun dd.h03.h, gun dd.h02.h, gun dd.h01.h]; exact u.o0
  · rw [gun dd.h18.h, gun dd.h17.h, gun dd.h16.h, gun dd.h15.h, gun dd.h14.h, gun dd.h13.h, gun dd.h12.h, gus]; simp
  · rw [gun dd.h28.h, gun dd.h27.h, gun dd.h26.h, gun dd.h25.h, gun dd.h24.h, gun dd.h23.h, gus]
  · rw [gun dd.h38.h, gun dd.h37.h, gun dd.h36.h, gun dd.h35.h, gun dd.h34.h, gus]; simp
  · rw [gun dd.h48.h, gun dd.h47.h, gun dd.h46.h, gun dd.h45.h, gus]; simp
  · rw [gun dd.h58.h, gun dd.h57.h, gun dd.h56.h, gus]; simp
  · rw [gun dd.h68.h, gun dd.h67.h, gus]; simp
  · rw [gun dd.h78.h, gus]; simp
  · rw [gus]; simp
theorem laid_keep : Keep g (laidG g l p S r ts) a l := fun b o h1 h2 h3 => by
  simp only [ShL.all, List.mem_cons, List.not_mem_nil, or_false, not_or] at h2
  obtain ⟨n1, n2, n3, n4, n5, n6, n7, n8⟩ := h2
  unfold laidG
  rw [gun n8, gun n7, gun n6, gun n5, gun n4, gun n3, gun n2, gun n1]
  exact h3
theorem Un.new {o : O} (u : Un g a l ts S) (h : g p = none) : Un (gu g p o) a l ts S := by
  have s : ∀ b q, g b = some q → gu g p o b = some q := fun b q hb => Sub.new h b q hb
  exact ⟨u.len, fun i t r h1 h2 => s _ _ (u.tu i t r h1 h2), s _ _ u.o0, s _ _ u.o1, s _ _ u.o2, s _ _ u.o3, s _ _ u.o4, s _ _ u.o5, s _ _ u.o6, s _ _ u.o7, s _ _ u.o8⟩
theorem Keep.new {o : O} (h : g p = none) : Keep g (gu g p o) a l := fun b q _ _ hb => Sub.new h b q hb
theorem Keep.trans {g1 g2 g3 : G} (h : Keep g1 g2 a l) (k : Keep g2 g3 a l) : Keep g1 g3 a l := fun b o h1 h2 h3 => k b o h1 h2 (h b o h1 h2 h3)
end
section
variable {kl : Addr → List V → Prop} {bs : Nat → SpG} {defs : Nat → Option FDef} {k : Nat} {g : G} {Q : VG} {E : XG} [hd : ShD defs] {a : Addr} {l : ShL} {S S' : Sh} {ts : List Addr}
theorem z_leaf (dd : DisL a l) (u : Un g a l ts S) {x : Str} {n : Nat} (h : leafN x S = some (n, S'))
    (q : ∀ gX ts', Un gX a l ts' S' → Keep g gX a l → Q (.int n) gX) : Gam kl bs defs (k + 2) 21 [.ref a, .str x] g Q E := by
  obtain ⟨a1, a2, a3, a4, a5, a6, a7, a8⟩ := l
  unfold leafN at h
  split at h
  rotate_left
  · cases h
  rename_i hx
  obtain ⟨hp, hx1, hx8⟩ := hx
  replace dd : Dis a a1 a2 a3 a4 a5 a6 a7 a8 := dd
  haveI : NeA a a1 := dd.h01
  haveI : NeA a a2 := dd.h02
  haveI : NeA a a3 := dd.h03
  haveI : NeA a a4 := dd.h04
  haveI : NeA a a5 := dd.h05
  haveI : NeA a a6 := dd.h06
  haveI : NeA a a7 := dd.h07
  haveI : NeA a a8 := dd.h08
  haveI : NeA a7 a1 := dd.h71
  haveI : NeA a7 a2 := dd.h72
  haveI : NeA a7 a3 := dd.h73
  haveI : NeA a7 a4 := dd.h74
  haveI : NeA a7 a5 := dd.h75
  haveI : NeA a7 a6 := dd.h76
  haveI : NeA a8 a1 := dd.h81
  haveI : NeA a8 a2 := dd.h82
  haveI : NeA a8 a3 := dd.h83
  haveI : NeA a8 a4 := dd.h84
  haveI : NeA a8 a5 := dd.h85
  haveI : NeA a8 a6 := dd.h86
  haveI : NeA a8 a7 := dd.h87
  haveI i0 : At g a (.ins 0 [(0, .ref a1), (1, .ref a2), (2, .ref a3), (3, .ref a4), (4, .ref a5), (5, .ref a6), (6, .ref a7), (7, .ref a8)]) := ⟨u.o0⟩
  haveI i1 : At g a1 (.lst (.non :: ts.map V.ref)) := ⟨u.o1⟩
  haveI i2 : At g a2 (.dT (shD 0 S)) := ⟨u.o2⟩
  haveI i3 : At g a3 (.lst (.int 0 :: S.map fun r => .int r.sg)) := ⟨u.o3⟩
  haveI i4 : At g a4 (.lst (.int 0 :: S.map fun r => .int r.en)) := ⟨u.o4⟩
  haveI i5 : At g a5 (.lst (.int 0 :: S.map fun r => .int r.lv)) := ⟨u.o5⟩
  haveI i6 : At g a6 (.lst (.int (-1) :: S.map fun r => .int r.ht)) := ⟨u.o6⟩
  haveI i7 : At g a7 (.lst (.int 0 :: S.map fun r => .int r.fi)) := ⟨u.o7⟩
  haveI i8 : At g a8 (.lst (.int 0 :: S.map fun r => .int r.la)) := ⟨u.o8⟩
  refine gam_of hd.h21 rfl ?_
  show b_Shelf_leaf _ _ [some (.ref a), some (.str x), none, none] _
  unfold b_Shelf_leaf
  walk_at "w"
  have hs : sizeLine = 16777216 := rfl
  have hxl : x.length = x.cps.size := rfl
  refine z_is_plain (by omega) ?_
  rw [hp]
  walk_at "w"
  intro p hpn
  haveI f1 : Fr g p := ⟨hpn⟩
  haveI ip : At (gu g p (.tup [.str "leaf", .str x])) p (.tup ((pcK (.inl x)).map kV)) := ⟨gus⟩
  walk_at "w"
  unfold putP at h
  refine inT (S := S) (a2 := a2) ip.h ?_
  split at h
  · rename_i m hm
    rw [show lkP S (Sum.inl x) = some m from hm, Option.isSome_some]
    cases h
    walk_at "w"
    refine ixT ip.h hm ?_
    exact ⟨g, Sub.new hpn, q _ _ u fun _ _ _ _ h => h⟩
  · rename_i hm
    rw [show lkP S (Sum.inl x) = none from hm, Option.isSome_none]
    split at h
    rotate_left
    · cases h
    rename_i hz
    cases h
    walk_at "w"
    refine z_ends_in ?_
    walk_at "w"
    refine z_laid (r := lfR S x) (p := p) dd (l1 := by simp [u.len]) (l3 := by simp) (l4 := by simp) (l5 := by simp) (l6 := by simp) (hz := hz) (hn := hm) (hp := ip) ?_
    walk_at "w"
    have u1 := laid_un (r := lfR S x) (p := p) dd (u.new (o := .tup [.str "leaf", .str x]) hpn) gus
    have k1 : Keep g (laidG (gu g p (.tup [.str "leaf", .str x])) ⟨a1, a2, a3, a4, a5, a6, a7, a8⟩ p S (lfR S x) ts) a ⟨a1, a2, a3, a4, a5, a6, a7, a8⟩ := (Keep.new hpn).trans laid_keep
    refine ⟨_, Sub.refl _, ?_⟩
    exact q _ _ u1 k1
end
end SW
end

section
set_option Elab.async false
set_option linter.all false
set_option maxRecDepth 100000
set_option maxHeartbeats 4000000
/-! Shelf.fork, Shelf(). -/
namespace SW
open PySem L2
local macro_rules | `(tactic| walk_at "w") => `(tactic| repeat first | refine go ?_ | refine ifT ?_ | refine ifF ?_ | refine And.intro (by omega) ?_ | refine ifD (by omega) ?_ | refine ifDn (by omega) ?_ | refine ifN (by omega) ?_ | refine ifNn (by omega) ?_ | refine And.intro (by simp [sizeLine, atOf] <;> omega) ?_ | fail)
set_option synthInstance.maxHeartbeats 200000
set_option synthInstance.maxSize 100000
section
variable {kl : Addr → List V → Prop} {bs : Nat → SpG} {defs : Nat → Option FDef} {k : Nat} {g : G} {Q : VG} {E : XG} [hd : ShD defs] {a : Addr} {l : ShL} {S S' : Sh} {ts : List Addr}
theorem max2 {kl : Addr → List V → Prop} {g : G} {Q : VG} {p : Addr} {x y : Int} [h : At g p (.lst [.int x, .int y])] (q : Q (.int (max x y)) g) : biV kl .max [.ref p] g Q := by
  refine ⟨[x, y], .inl h.h, by simp, fun m hm hy => ?_⟩
  have e : m = max x y := by
    have h1 := hy x (by simp)
    have h2 := hy y (by simp)
    simp at hm
    omega
  rw [e]; exact q
theorem min2 {kl : Addr → List V → Prop} {g : G} {Q : VG} {p : Addr} {x y : Int} [h : At g p (.lst [.int x, .int y])] (q : Q (.int (min x y)) g) : biV kl .min [.ref p] g Q := by
  refine ⟨[x, y], .inl h.h, by simp, fun m hm hy => ?_⟩
  have e : m = min x y := by
    have h1 := hy x (by simp)
    have h2 := hy y (by simp)
    simp at hm
    omega
  rw [e]; exact q
instance {kl : Addr → List V → Prop} {g : G} {Q : VG} {p : Addr} {x y : Int} [h : At g p (.lst [.int x, .int y])] : Step (biV kl .max [.ref p] g Q) (Q (.int (max x y)) g) := ⟨max2⟩
instance {kl : Addr → List V → Prop} {g : G} {Q : VG} {p : Addr} {x y : Int} [h : At g p (.lst [.int x, .int y])] : Step (biV kl .min [.ref p] g Q) (Q (.int (min x y)) g) := ⟨min2⟩
theorem atV {xs : List V} {i : Int} {v : V} {K : V → Prop} (h : atI xs i = some v) (q : K v) : ∃ v, atI xs i = some v ∧ K v := ⟨v, h, q⟩
theorem z_fork (dd : DisL a l) (u : Un g a l ts S) {s t n : Nat} (h : forkN s t S = some (n, S'))
    (q : ∀ gX ts', Un gX a l ts' S' → Keep g gX a l → Q (.int n) gX) : Gam kl bs defs (k + 2) 22 [.ref a, .int s, .int t] g Q E := by
  obtain ⟨a1, a2, a3, a4, a5, a6, a7, a8⟩ := l
  unfold forkN at h
  split at h
  rotate_left
  · cases h
  rename_i hx
  obtain ⟨b1, b2, b3, b4, b5, b6, b7, b8, b9, b10⟩ := hx
  replace dd : Dis a a1 a2 a3 a4 a5 a6 a7 a8 := dd
  haveI : NeA a a1 := dd.h01
  haveI : NeA a a2 := dd.h02
  haveI : NeA a a3 := dd.h03
  haveI : NeA a a4 := dd.h04
  haveI : NeA a a5 := dd.h05
  haveI : NeA a a6 := dd.h06
  haveI : NeA a a7 := dd.h07
  haveI : NeA a a8 := dd.h08
  haveI : NeA a7 a1 := dd.h71
  haveI : NeA a7 a2 := dd.h72
  haveI : NeA a7 a3 := dd.h73
  haveI : NeA a7 a4 := dd.h74
  haveI : NeA a7 a5 := dd.h75
  haveI : NeA a7 a6 := dd.h76
  haveI : NeA a8 a1 := dd.h81
  haveI : NeA a8 a2 := dd.h82
  haveI : NeA a8 a3 := dd.h83
  haveI : NeA a8 a4 := dd.h84
  haveI : NeA a8 a5 := dd.h85
  haveI : NeA a8 a6 := dd.h86
  haveI : NeA a8 a7 := dd.h87
  haveI i0 : At g a (.ins 0 [(0, .ref a1), (1, .ref a2), (2, .ref a3), (3, .ref a4), (4, .ref a5), (5, .ref a6), (6, .ref a7), (7, .ref a8)]) := ⟨u.o0⟩
  haveI i1 : At g a1 (.lst (.non :: ts.map V.ref)) := ⟨u.o1⟩
  haveI i2 : At g a2 (.dT (shD 0 S)) := ⟨u.o2⟩
  haveI i3 : At g a3 (.lst (.int 0 :: S.map fun r => .int r.sg)) := ⟨u.o3⟩
  haveI i4 : At g a4 (.lst (.int 0 :: S.map fun r => .int r.en)) := ⟨u.o4⟩
  haveI i5 : At g a5 (.lst (.int 0 :: S.map fun r => .int r.lv)) := ⟨u.o5⟩
  haveI i6 : At g a6 (.lst (.int (-1) :: S.map fun r => .int r.ht)) := ⟨u.o6⟩
  haveI i7 : At g a7 (.lst (.int 0 :: S.map fun r => .int r.fi)) := ⟨u.o7⟩
  haveI i8 : At g a8 (.lst (.int 0 :: S.map fun r => .int r.la)) := ⟨u.o8⟩
  refine gam_of hd.h22 rfl ?_
  show b_Shelf_fork _ _ [some (.ref a), some (.int s), some (.int t), none, none, none, none, none, none] _
  unfold b_Shelf_fork
  have hs : sizeLine = 16777216 := rfl
  walk_at "w"
  refine z_want_piece b1 (by simp [u.len]; omega) ?_
  walk_at "w"
  refine z_want_piece b3 (by simp [u.len]; omega) ?_
  walk_at "w"
  refine z_is_loose (atI_la b2) (atI_sg b5) (atI_fi b4) (atI_sg b6) ?_
  walk_at "w"
  refine atV (atI_ht b2) ?_
  walk_at "w"
  refine atV (atI_ht b4) ?_
  walk_at "w"
  intro p hp
  haveI f1 : Fr g p := ⟨hp⟩
  haveI : NeA a p := NeA.of_fr i0 f1
  haveI : NeA a3 p := NeA.of_fr i3 f1
  rw [htT_pos b1, htT_pos b3]
  walk_at "w"
  refine atV (atI_sg b2) ?_
  walk_at "w"
  refine atV (atI_sg b4) ?_
  walk_at "w"
  intro p2 hp2
  haveI f2 : Fr (gu g p (.lst [.int (hgT S s), .int (hgT S t)])) p2 := ⟨hp2⟩
  haveI ip : At (gu (gu g p (.lst [.int (hgT S s), .int (hgT S t)])) p2 (.tup [.str "fork", .int s, .int t])) p2 (.tup ((pcK (.inr (s, t))).map kV)) := ⟨gus⟩
  walk_at "w"
  unfold putP at h
  refine inT (S := S) (a2 := a2) ip.h ?_
  split at h
  · rename_i m hm
    rw [show lkP S (Sum.inr (s, t)) = some m from hm, Option.isSome_some]
    cases h
    walk_at "w"
    refine ixT ip.h hm ?_
    exact ⟨g, (Sub.new hp).trans (Sub.new hp2), q _ _ u fun _ _ _ _ h => h⟩
  · rename_i hm
    rw [show lkP S (Sum.inr (s, t)) = none from hm, Option.isSome_none]
    split at h
    rotate_left
    · cases h
    rename_i hz
    cases h
    walk_at "w"
    refine atV (atI_en b2) ?_
    walk_at "w"
    refine atV (atI_en b4) ?_
    walk_at "w"
    refine atV (atI_lv b2) ?_
    walk_at "w"
    refine atV (atI_lv b4) ?_
    walk_at "w"
    refine z_laid (r := fkR S s t) (p := p2) dd (l1 := by simp [u.len]) (l3 := by simp) (l4 := by simp) (l5 := by simp) (l6 := by simp) (hz := hz) (hn := hm) (hp := ip) ?_
    walk_at "w"
    refine atV (atI_fi b2) ?_
    walk_at "w"
    refine atV (atI_la b4) ?_
    walk_at "w"
    have u1 := laid_un (r := fkR S s t) (p := p2) dd ((u.new (o := .lst [.int (hgT S s), .int (hgT S t)]) hp).new (o := .tup [.str "fork", .int s, .int t]) hp2) gus
    have k1 : Keep g (laidG (gu (gu g p (.lst [.int (hgT S s), .int (hgT S t)])) p2 (.tup [.str "fork", .int s, .int t])) ⟨a1, a2, a3, a4, a5, a6, a7, a8⟩ p2 S (fkR S s t) ts) a ⟨a1, a2, a3, a4, a5, a6, a7, a8⟩ := ((Keep.new hp).trans (Keep.new hp2)).trans laid_keep
    have c1 : ((fkR S s t).sg : Int) = (sgT S s : Int) + sgT S t := by simp [fkR]
    have c2 : ((fkR S s t).en : Int) = (enT S s : Int) + enT S t := by simp [fkR]
    have c3 : ((fkR S s t).lv : Int) = (lvT S s : Int) + lvT S t := by simp [fkR]
    have c4 : ((fkR S s t).ht : Int) = 1 + max (hgT S s : Int) (hgT S t : Int) := by simp only [fkR]; omega
    unfold laidG at u1 k1
    rw [c1, c2, c3, c4] at u1 k1
    refine ⟨_, Sub.refl _, ?_⟩
    exact q _ _ u1 k1
theorem of_fr' {g : G} {a b : Addr} {o : O} (f : Fr g b) [s : At g a o] : NeA a b := NeA.of_fr s f
theorem z_init [h0 : At g a (.ins 0 [])] (q : ∀ l gX, DisL a l → (∀ b ∈ l.all, g b = none) → Un gX a l [] [] → Keep g gX a l → Q .non gX) : Gam kl bs defs (k + 1) 9 [.ref a] g Q E := by
  refine gam_of hd.h9 rfl ?_
  show b_Shelf___init__ _ _ [some (.ref a)] _
  unfold b_Shelf___init__
  walk_at "w"
  intro p1 f1
  replace f1 : Fr _ p1 := ⟨f1⟩
  haveI n01 : NeA a p1 := of_fr' f1
  haveI n10 : NeA p1 a := n01.symm
  walk_at "w"
  refine Or.inr ?_
  intro p2 f2
  replace f2 : Fr _ p2 := ⟨f2⟩
  haveI n02 : NeA a p2 := of_fr' f2
  haveI n20 : NeA p2 a := n02.symm
  haveI n12 : NeA p1 p2 := of_fr' f2
  haveI n21 : NeA p2 p1 := n12.symm
  walk_at "w"
  intro p3 f3
  replace f3 : Fr _ p3 := ⟨f3⟩
  haveI n03 : NeA a p3 := of_fr' f3
  haveI n30 : NeA p3 a := n03.symm
  haveI n13 : NeA p1 p3 := of_fr' f3
  haveI n31 : NeA p3 p1 := n13.symm
  haveI n23 : NeA p2 p3 := of_fr' f3
  haveI n32 : NeA p3 p2 := n23.symm
  walk_at "w"
  intro p4 f4
  replace f4 : Fr _ p4 := ⟨f4⟩
  haveI n04 : NeA a p4 := of_fr' f4
  haveI n40 : NeA p4 a := n04.symm
  haveI n14 : NeA p1 p4 := of_fr' f4
  haveI n41 : NeA p4 p1 := n14.symm
  haveI n24 : NeA p2 p4 := of_fr' f4
  haveI n42 : NeA p4 p2 := n24.symm
  haveI n34 : NeA p3 p4 := of_fr' f4
  haveI n43 : NeA p4 p3 := n34.symm
  walk_at "w"
  intro p5 f5
  replace f5 : Fr _ p5 := ⟨f5⟩
  haveI n05 : NeA a p5 := of_fr' f5
  haveI n50 : NeA p5 a := n05.symm
  haveI n15 : NeA p1 p5 := of_fr' f5
  haveI n51 : NeA p5 p1 := n15.symm
  haveI n25 : NeA p2 p5 := of_fr' f5
  haveI n52 : NeA p5 p2 := n25.symm
  haveI n35 : NeA p3 p5 := of_fr' f5
  haveI n53 : NeA p5 p3 := n35.symm
  haveI n45 : NeA p4 p5 := of_fr' f5
  haveI n54 : NeA p5 p4 := n45.symm
  walk_at "w"
  intro p6 f6
  replace f6 : Fr _ p6 := ⟨f6⟩
  haveI n06 : NeA a p6 := of_fr' f6
  haveI n60 : NeA p6 a := n06.symm
  haveI n16 : NeA p1 p6 := of_fr' f6
  haveI n61 : NeA p6 p1 := n16.symm
  haveI n26 : NeA p2 p6 := of_fr' f6
  haveI n62 : NeA p6 p2 := n26.symm
  haveI n36 : NeA p3 p6 := of_fr' f6
  haveI n63 : NeA p6 p3 := n36.symm
  haveI n46 : NeA p4 p6 := of_fr' f6
  haveI n64 : NeA p6 p4 := n46.symm
  haveI n56 : NeA p5 p6 := of_fr' f6
  haveI n65 : NeA p6 p5 := n56.symm
  walk_at "w"
  intro p7 f7
  replace f7 : Fr _ p7 := ⟨f7⟩
  haveI n07 : NeA a p7 := of_fr' f7
  haveI n70 : NeA p7 a := n07.symm
  haveI n17 : NeA p1 p7 := of_fr' f7
  haveI n71 : NeA p7 p1 := n17.symm
  haveI n27 : NeA p2 p7 := of_fr' f7
  haveI n72 : NeA p7 p2 := n27.symm
  haveI n37 : NeA p3 p7 := of_fr' f7
  haveI n73 : NeA p7 p3 := n37.symm
  haveI n47 : NeA p4 p7 := of_fr' f7
  haveI n74 : NeA p7 p4 := n47.symm
  haveI n57 : NeA p5 p7 := of_fr' f7
  haveI n75 : NeA p7 p5 := n57.symm
  haveI n67 : NeA p6 p7 := of_fr' f7
  haveI n76 : NeA p7 p6 := n67.symm
  walk_at "w"
  intro p8 f8
  replace f8 : Fr _ p8 := ⟨f8⟩
  haveI n08 : NeA a p8 := of_fr' f8
  haveI n80 : NeA p8 a := n08.symm
  haveI n18 : NeA p1 p8 := of_fr' f8
  haveI n81 : NeA p8 p1 := n18.symm
  haveI n28 : NeA p2 p8 := of_fr' f8
  haveI n82 : NeA p8 p2 := n28.symm
  haveI n38 : NeA p3 p8 := of_fr' f8
  haveI n83 : NeA p8 p3 := n38.symm
  haveI n48 : NeA p4 p8 := of_fr' f8
  haveI n84 : NeA p8 p4 := n48.symm
  haveI n58 : NeA p5 p8 := of_fr' f8
  haveI n85 : NeA p8 p5 := n58.symm
  haveI n68 : NeA p6 p8 := of_fr' f8
  haveI n86 : NeA p8 p6 := n68.symm
  haveI n78 : NeA p7 p8 := of_fr' f8
  haveI n87 : NeA p8 p7 := n78.symm
  walk_at "w"
  refine ⟨_, Sub.refl _, ?_⟩
  refine q ⟨p1, p2, p3, p4, p5, p6, p7, p8⟩ _ ⟨n01, n02, n03, n04, n05, n06, n07, n08, n10, n12, n13, n14, n15, n16, n17, n18, n20, n21, n23, n24, n25, n26, n27, n28, n30, n31, n32, n34, n35, n36, n37, n38, n40, n41, n42, n43, n45, n46, n47, n48, n50, n51, n52, n53, n54, n56, n57, n58, n60, n61, n62, n63, n64, n65, n67, n68, n70, n71, n72, n73, n74, n75, n76, n78, n80, n81, n82, n83, n84, n85, n86, n87⟩ ?_ ?_ ?_
  · intro b hb
    simp only [ShL.all, List.mem_cons, List.not_mem_nil, or_false] at hb
    have fg : ∀ {g : G} {a b : Addr} {o : O}, Fr (gu g a o) b → Fr g b := fun f => f.of_gu
    rcases hb with rfl | rfl | rfl | rfl | rfl | rfl | rfl | rfl
    · exact f1.h
    · exact (fg (fg f2)).h
    · exact (fg (fg (fg (fg f3)))).h
    · exact (fg (fg (fg (fg (fg (fg f4)))))).h
    · exact (fg (fg (fg (fg (fg (fg (fg (fg f5)))))))).h
    · exact (fg (fg (fg (fg (fg (fg (fg (fg (fg (fg f6)))))))))).h
    · exact (fg (fg (fg (fg (fg (fg (fg (fg (fg (fg (fg (fg f7)))))))))))).h
    · exact (fg (fg (fg (fg (fg (fg (fg (fg (fg (fg (fg (fg (fg (fg f8)))))))))))))).h
  · exact ⟨rfl, fun i t r h _ => by simp at h, At.h, At.h, At.h, At.h, At.h, At.h, At.h, At.h, At.h⟩
  · intro b o h1 h2 h3
    simp only [ShL.all, List.mem_cons, List.not_mem_nil, or_false, not_or] at h2
    obtain ⟨m1, m2, m3, m4, m5, m6, m7, m8⟩ := h2
    rw [gun h1, gun m8, gun h1, gun m7, gun h1, gun m6, gun h1, gun m5, gun h1, gun m4, gun h1, gun m3, gun h1, gun m2, gun h1, gun m1]
    exact h3
end
end SW
end

section
set_option Elab.async false
set_option linter.all false
set_option maxRecDepth 100000
set_option maxHeartbeats 4000000
/-! A shelf as one cell: its methods as primitives. -/
namespace SW
open PySem PySem.Spec PyProof.Rows L2
inductive PrimOk : Nat → List V → G → VG → Prop
  | init {a : Addr} {g : G} {Q : VG} : g a = some (.ins 0 []) → Q .non (gu g a (.shf [])) → PrimOk 9 [.ref a] g Q
  | many {a : Addr} {g : G} {Q : VG} {S : Sh} : g a = some (.shf S) → Q (.int S.length) g → PrimOk 12 [.ref a] g Q
  | piece {a : Addr} {g : G} {Q : VG} {S : Sh} {t : Nat} {pc : Sum Str (Nat × Nat)} : g a = some (.shf S) → pcT S t = some pc →
      (∀ p, (g p = none ∨ g p = some (.tup ((pcK pc).map kV))) → Q (.ref p) (gu g p (.tup ((pcK pc).map kV)))) → PrimOk 13 [.ref a, .int t] g Q
  | signs {a : Addr} {g : G} {Q : VG} {S : Sh} {t : Nat} : g a = some (.shf S) → t ≤ S.length → Q (.int (sgT S t)) g → PrimOk 14 [.ref a, .int t] g Q
  | ends {a : Addr} {g : G} {Q : VG} {S : Sh} {t : Nat} : g a = some (.shf S) → t ≤ S.length → Q (.int (enT S t)) g → PrimOk 15 [.ref a, .int t] g Q
  | leaves {a : Addr} {g : G} {Q : VG} {S : Sh} {t : Nat} : g a = some (.shf S) → t ≤ S.length → Q (.int (lvT S t)) g → PrimOk 16 [.ref a, .int t] g Q
  | height {a : Addr} {g : G} {Q : VG} {S : Sh} {t : Nat} : g a = some (.shf S) → t ≤ S.length → Q (.int (htT S t)) g → PrimOk 17 [.ref a, .int t] g Q
  | first {a : Addr} {g : G} {Q : VG} {S : Sh} {t : Nat} : g a = some (.shf S) → t ≤ S.length → Q (.int (fiT S t)) g → PrimOk 18 [.ref a, .int t] g Q
  | last {a : Addr} {g : G} {Q : VG} {S : Sh} {t : Nat} : g a = some (.shf S) → t ≤ S.length → Q (.int (laT S t)) g → PrimOk 19 [.ref a, .int t] g Q
  | leaf {a : Addr} {g : G} {Q : VG} {S S' : Sh} {x : Str} {n : Nat} : g a = some (.shf S) → leafN x S = some (n, S') → Q (.int n) (gu g a (.shf S')) → PrimOk 21 [.ref a, .str x] g Q
  | fork {a : Addr} {g : G} {Q : VG} {S S' : Sh} {s t n : Nat} : g a = some (.shf S) → forkN s t S = some (n, S') → Q (.int n) (gu g a (.shf S')) → PrimOk 22 [.ref a, .int s, .int t] g Q
  | loose {a : Addr} {g : G} {Q : VG} {S : Sh} {s t : Nat} : g a = some (.shf S) → s ≤ S.length → t ≤ S.length → laT S s ≤ S.length → fiT S t ≤ S.length →
      Q (.bl (decide (sgT S (laT S s) + sgT S (fiT S t) ≤ 8))) g → PrimOk 23 [.ref a, .int s, .int t] g Q
def bsP (f : Nat) (vs : List V) (g : G) (Q : VG) (_ : XG) : Prop := PrimOk f vs g Q
/-- an object of the hand layer as one of the abstract heap -/
def toO : HO → Option O
  | .lst xs => some (.lst xs)
  | .tup xs => some (.tup xs)
  | .dT kvs => some (.dT kvs)
  | _ => none
section
variable {P : Prm} {own : Own} {g gX : G} {H : Hp} {a : Addr} {S : Sh} {l : ShL} {ts : List Addr}
def openG (g : G) (H : Hp) (a : Addr) (l : ShL) (ts : List Addr) : G := fun b => if b = a then some (.ins 0 l.fs) else if b ∈ l.all ∨ (b ∈ ts ∧ g b = none) then (H b).bind toO else g b
theorem toO_ok {P : Prm} {own : Own} {H : Hp} {b : Addr} {o : O} (h : (H b).bind toO = some o) : OkAt P own H b o := by
  cases e : H b with
  | none => rw [e] at h; cases h
  | some u =>
    rw [e, Option.bind_some] at h
    cases u <;> (first | (cases h; done) | (cases h; exact e))
theorem ShObj.cls {l : ShL} (ob : ShObj H l ts S) {b : Addr} (hb : b ∈ l.all) : (∃ xs, H b = some (.lst xs)) ∨ ∃ kvs, H b = some (.dT kvs) := by
  simp only [ShL.all, List.mem_cons, List.not_mem_nil, or_false] at hb
  rcases hb with rfl | rfl | rfl | rfl | rfl | rfl | rfl | rfl
  · exact .inl ⟨_, ob.o1⟩
  · exact .inr ⟨_, ob.o2⟩
  · exact .inl ⟨_, ob.o3⟩
  · exact .inl ⟨_, ob.o4⟩
  · exact .inl ⟨_, ob.o5⟩
  · exact .inl ⟨_, ob.o6⟩
  · exact .inl ⟨_, ob.o7⟩
  · exact .inl ⟨_, ob.o8⟩
theorem open_shelf (A : Ab P g H) (e : g a = some (.shf S)) : ∃ l ts gU, Ab P gU H ∧ DisL a l ∧ Un gU a l ts S ∧ ∀ b o, b ≠ a → g b = some o → b ∉ l.all ∧ gU b = some o := by
  obtain ⟨own, A⟩ := A
  obtain ⟨ha, sh⟩ := A.at_ _ _ e
  obtain ⟨C, dx, l, ts, hc, hH, ho, nd, ob⟩ := sh.ex
  have hal : a ∉ l.all := fun h => by rcases ob.cls h with ⟨xs, z⟩ | ⟨xs, z⟩ <;> rw [hH] at z <;> cases z
  have hla : ∀ b o, g b = some o → b ∉ l.all := fun b o h1 h2 => by
    have := (A.at_ _ _ h1).1
    rw [ho b h2] at this; cases this
  have hU1 : openG g H a l ts a = some (.ins 0 l.fs) := by unfold openG; rw [if_pos rfl]
  have hU2 : ∀ b, b ∈ l.all → openG g H a l ts b = (H b).bind toO := fun b hb => by
    have hba : b ≠ a := fun z => hal (z ▸ hb)
    unfold openG
    rw [if_neg hba, if_pos (.inl hb)]
  have hU3 : ∀ b o, b ≠ a → g b = some o → openG g H a l ts b = some o := fun b o h1 h2 => by
    unfold openG
    rw [if_neg h1, if_neg, h2]
    rintro (h | ⟨_, h⟩)
    · exact hla b o h2 h
    · rw [h2] at h; cases h
  have htu : ∀ (i : Nat) (t : Addr) (r : PRec), ts[i]? = some t → S[i]? = some r → openG g H a l ts t = some (.tup ((pcK r.pc).map kV)) := fun i t r h1 h2 => by
    have ht := ob.tu i t r h1 h2
    have hta : t ≠ a := fun z => by rw [z, hH] at ht; cases ht
    cases hg : g t with
    | none =>
      unfold openG
      rw [if_neg hta, if_pos (.inr ⟨List.mem_of_getElem? h1, hg⟩), ht]
      rfl
    | some o =>
      rw [hU3 t o hta hg]
      have := (A.at_ _ _ hg).2
      cases o with
      | lst xs => rw [show H t = _ from this] at ht; cases ht
      | tup xs => rw [show H t = _ from this] at ht; cases ht; rfl
      | dK xs => rw [show H t = _ from this] at ht; cases ht
      | dT xs => rw [show H t = _ from this] at ht; cases ht
      | ins c fs => obtain ⟨C, dx, _, h, _⟩ := this; rw [h] at ht; cases ht
      | shf S => obtain ⟨C, dx, _, _, _, h, _⟩ := this.ex; rw [h] at ht; cases ht
  have m1 : ∀ b ∈ l.all, b ≠ a := fun b hb z => hal (z ▸ hb)
  refine ⟨l, ts, openG g H a l ts, ⟨fun b => if own b = some a then none else own b, fun b o hb => ?_, fun b c hb => ?_, A.kl⟩, ?_, ⟨ob.len, htu, hU1, ?_, ?_, ?_, ?_, ?_, ?_, ?_, ?_⟩, fun b o h1 h2 => ⟨hla b o h2, hU3 b o h1 h2⟩⟩
  · by_cases h1 : b = a
    · subst h1
      rw [hU1] at hb; cases hb
      refine ⟨by rw [ha]; simp, C, dx, hc, hH, ?_⟩
      intro p hp
      simp only [ShL.fs, List.mem_cons, List.not_mem_nil, or_false] at hp
      rcases hp with rfl | rfl | rfl | rfl | rfl | rfl | rfl | rfl <;> simp [atOf]
    · by_cases h2 : b ∈ l.all ∨ (b ∈ ts ∧ g b = none)
      · have h3 : (H b).bind toO = some o := by unfold openG at hb; rw [if_neg h1, if_pos h2] at hb; exact hb
        refine ⟨?_, toO_ok h3⟩
        split
        · rfl
        · rename_i h4
          rcases h2 with h2 | ⟨h2, h5⟩
          · exact absurd (ho b h2) h4
          · obtain ⟨i, hi⟩ := List.getElem?_of_mem h2
            have hl : i < S.length := by rw [← ob.len]; exact (List.getElem?_eq_some_iff.mp hi).1
            have ht := ob.tu i _ _ hi (List.getElem?_eq_getElem hl)
            cases q : own b with
            | none => rfl
            | some z => rcases A.live _ _ q with ⟨_, z⟩ | ⟨_, z⟩ <;> rw [ht] at z <;> cases z
      · have h3 : g b = some o := by unfold openG at hb; rw [if_neg h1, if_neg h2] at hb; exact hb
        obtain ⟨h4, h5⟩ := A.at_ _ _ h3
        refine ⟨by rw [h4]; simp, ?_⟩
        cases o with
        | lst xs => exact h5
        | tup xs => exact h5
        | dK xs => exact h5
        | dT xs => exact h5
        | ins c fs => exact h5
        | shf S2 =>
          obtain ⟨C2, dx2, l2, ts2, c1, c2, c3, c4, c5⟩ := h5.ex
          refine ⟨C2, dx2, l2, ts2, c1, c2, fun d hd => ?_, c4, c5⟩
          rw [c3 d hd, if_neg]
          intro z; cases z; exact h1 rfl
  · split at hb
    · cases hb
    · exact A.live _ _ hb
  · simp only [ShL.all, List.mem_cons, List.not_mem_nil, or_false, not_or] at hal
    obtain ⟨x1, x2, x3, x4, x5, x6, x7, x8⟩ := hal
    simp only [ShL.all, List.nodup_cons, List.mem_cons, List.not_mem_nil, or_false, not_or, not_false_eq_true, List.nodup_nil, and_true] at nd
    obtain ⟨⟨a12, a13, a14, a15, a16, a17, a18⟩, ⟨a23, a24, a25, a26, a27, a28⟩, ⟨a34, a35, a36, a37, a38⟩, ⟨a45, a46, a47, a48⟩, ⟨a56, a57, a58⟩, ⟨a67, a68⟩, a78⟩ := nd
    have y1 := Ne.symm x1
    constructor <;> constructor <;> (first | assumption | (apply Ne.symm; assumption))
  all_goals rw [hU2 _ (by simp [ShL.all])]
  · rw [ob.o1]; rfl
  · rw [ob.o2]; rfl
  · rw [ob.o3]; rfl
  · rw [ob.o4]; rfl
  · rw [ob.o5]; rfl
  · rw [ob.o6]; rfl
  · rw [ob.o7]; rfl
  · rw [ob.o8]; rfl
def foldG (gX : G) (a : Addr) (l : ShL) (S : Sh) : G := fun b => if b = a then some (.shf S) else if b ∈ l.all then none else gX b
theorem fold_shelf (A : Ab P gX H) (dd : DisL a l) (u : Un gX a l ts S) : Ab P (foldG gX a l S) H := by
  obtain ⟨own, A⟩ := A
  have hal : ∀ b, b ∈ l.all → own b = none ∧ ((∃ xs, H b = some (.lst xs)) ∨ ∃ kvs, H b = some (.dT kvs)) := by
    intro b hb
    simp only [ShL.all, List.mem_cons, List.not_mem_nil, or_false] at hb
    rcases hb with rfl | rfl | rfl | rfl | rfl | rfl | rfl | rfl
    · exact ⟨(A.at_ _ _ u.o1).1, .inl ⟨_, (A.at_ _ _ u.o1).2⟩⟩
    · exact ⟨(A.at_ _ _ u.o2).1, .inr ⟨_, (A.at_ _ _ u.o2).2⟩⟩
    · exact ⟨(A.at_ _ _ u.o3).1, .inl ⟨_, (A.at_ _ _ u.o3).2⟩⟩
    · exact ⟨(A.at_ _ _ u.o4).1, .inl ⟨_, (A.at_ _ _ u.o4).2⟩⟩
    · exact ⟨(A.at_ _ _ u.o5).1, .inl ⟨_, (A.at_ _ _ u.o5).2⟩⟩
    · exact ⟨(A.at_ _ _ u.o6).1, .inl ⟨_, (A.at_ _ _ u.o6).2⟩⟩
    · exact ⟨(A.at_ _ _ u.o7).1, .inl ⟨_, (A.at_ _ _ u.o7).2⟩⟩
    · exact ⟨(A.at_ _ _ u.o8).1, .inl ⟨_, (A.at_ _ _ u.o8).2⟩⟩
  obtain ⟨ha, C, dx, hc, hH, _⟩ := A.at_ _ _ u.o0
  have han : a ∉ l.all := by
    simp only [ShL.all, List.mem_cons, List.not_mem_nil, or_false, not_or]
    exact ⟨dd.h01.h, dd.h02.h, dd.h03.h, dd.h04.h, dd.h05.h, dd.h06.h, dd.h07.h, dd.h08.h⟩
  refine ⟨fun b => if b ∈ l.all then some a else own b, fun b o hb => ?_, fun b c hb => ?_, A.kl⟩
  · unfold foldG at hb
    by_cases h1 : b = a
    · subst h1
      rw [if_pos rfl] at hb; cases hb
      refine ⟨by rw [if_neg han]; exact ha, ⟨C, dx, l, ts, hc, hH, fun d hd => if_pos hd, ?_, ?_⟩⟩
      · simp only [ShL.all, List.nodup_cons, List.mem_cons, List.not_mem_nil, or_false, not_or, not_false_eq_true, List.nodup_nil, and_true]
        exact ⟨⟨dd.h12.h, dd.h13.h, dd.h14.h, dd.h15.h, dd.h16.h, dd.h17.h, dd.h18.h⟩, ⟨dd.h23.h, dd.h24.h, dd.h25.h, dd.h26.h, dd.h27.h, dd.h28.h⟩, ⟨dd.h34.h, dd.h35.h, dd.h36.h, dd.h37.h, dd.h38.h⟩, ⟨dd.h45.h, dd.h46.h, dd.h47.h, dd.h48.h⟩, ⟨dd.h56.h, dd.h57.h, dd.h58.h⟩, ⟨dd.h67.h, dd.h68.h⟩, dd.h78.h⟩
      · exact ⟨u.len, fun i t r h1 h2 => (A.at_ _ _ (u.tu i t r h1 h2)).2, (A.at_ _ _ u.o1).2, (A.at_ _ _ u.o2).2, (A.at_ _ _ u.o3).2, (A.at_ _ _ u.o4).2, (A.at_ _ _ u.o5).2, (A.at_ _ _ u.o6).2, (A.at_ _ _ u.o7).2, (A.at_ _ _ u.o8).2⟩
    · rw [if_neg h1] at hb
      by_cases h2 : b ∈ l.all
      · rw [if_pos h2] at hb; cases hb
      · rw [if_neg h2] at hb
        obtain ⟨h4, h5⟩ := A.at_ _ _ hb
        refine ⟨by rw [if_neg h2]; exact h4, ?_⟩
        cases o with
        | lst xs => exact h5
        | tup xs => exact h5
        | dK xs => exact h5
        | dT xs => exact h5
        | ins c fs => exact h5
        | shf S2 =>
          obtain ⟨C2, dx2, l2, ts2, c1, c2, c3, c4, c5⟩ := h5.ex
          refine ⟨C2, dx2, l2, ts2, c1, c2, fun d hd => ?_, c4, c5⟩
          rw [if_neg]
          · exact c3 d hd
          · intro z; have := (hal d z).1; rw [c3 d hd] at this; cases this
  · split at hb
    · rename_i h; exact (hal b h).2
    · exact A.live _ _ hb
theorem fold_sub {S' : Sh} {gU : G} (h : ∀ b o, b ≠ a → g b = some o → b ∉ l.all ∧ gU b = some o) (k : Keep gU gX a l) : Sub (gu g a (.shf S')) (foldG gX a l S') := fun b o hb => by
  unfold SW.gu at hb
  unfold foldG
  split at hb
  · rename_i e; rw [if_pos e]; exact hb
  · rename_i e
    rw [if_neg e]
    obtain ⟨h1, h2⟩ := h b o e hb
    rw [if_neg h1]
    exact k b o e h1 h2
theorem sub_self (e : g a = some (.shf S)) : Sub g (gu g a (.shf S)) := fun b o hb => by
  unfold SW.gu
  split
  · rename_i h; subst h; rw [e] at hb; exact hb
  · exact hb
end
end SW
end

section
set_option Elab.async false
set_option linter.all false
set_option maxRecDepth 100000
set_option maxHeartbeats 4000000
/-! The Shelf's methods keep their promises as primitives. -/
namespace SW
open PySem PySem.Spec PyProof.Rows L2
section
variable {prog : Program} {w : World} {K : PySem.W.Frag} {mg : Str → Option Value} {base : Heap} {P : Prm} {es : List Ent} {L : Nat} {kl : Addr → List V → Prop}
theorem Un.ls {g : G} {a : Addr} {l : ShL} {ts : List Addr} {S : Sh} (u : Un g a l ts S) : At g a (.ins 0 [(0, .ref l.a1), (1, .ref l.a2), (2, .ref l.a3), (3, .ref l.a4), (4, .ref l.a5), (5, .ref l.a6), (6, .ref l.a7), (7, .ref l.a8)]) ∧ At g l.a1 (.lst (.non :: ts.map V.ref)) ∧
    At g l.a3 (.lst (.int 0 :: S.map fun r => .int r.sg)) ∧ At g l.a4 (.lst (.int 0 :: S.map fun r => .int r.en)) ∧ At g l.a5 (.lst (.int 0 :: S.map fun r => .int r.lv)) ∧ At g l.a6 (.lst (.int (-1) :: S.map fun r => .int r.ht)) ∧
    At g l.a7 (.lst (.int 0 :: S.map fun r => .int r.fi)) ∧ At g l.a8 (.lst (.int 0 :: S.map fun r => .int r.la)) := ⟨⟨u.o0⟩, ⟨u.o1⟩, ⟨u.o3⟩, ⟨u.o4⟩, ⟨u.o5⟩, ⟨u.o6⟩, ⟨u.o7⟩, ⟨u.o8⟩⟩
theorem prim_low (hd : ShD (defsOf es)) {f : Nat} {vs : List V} {H : Hp} {Q : VK} {E : XK} (h : lowSp P (bsP f) vs H Q E) : lowSp P (Gam kl bz (defsOf es) 3 f) vs H Q E := by
  obtain ⟨g, Q', A, h, i⟩ := h
  have rd : ∀ {a : Addr} {S : Sh} {l : ShL} {ts : List Addr} {gU : G} {v : V}, g a = some (.shf S) → Ab P gU H → DisL a l → Un gU a l ts S → (∀ b o, b ≠ a → g b = some o → b ∉ l.all ∧ gU b = some o) → Q' v g → ∀ H', Ab P gU H' → Q v H' := by
    intro a S l ts gU v e A' dd u hk q H' A2
    refine i _ _ _ q ((fold_shelf A2 dd u).sub ?_)
    exact (sub_self e).trans (fold_sub hk fun _ _ _ _ h => h)
  have tl : ∀ {S : Sh} {ts : List Addr} {t : Nat}, ts.length = S.length → t ≤ S.length → t < (V.non :: ts.map V.ref).length := fun h1 h2 => by simp; omega
  cases h with
  | @init a _ _ e q =>
    refine ⟨g, fun v g' => ∀ H', Ab P g' H' → Q v H', A, ?_, fun _ _ _ h A2 => h _ A2⟩
    haveI : At g a (.ins 0 []) := ⟨e⟩
    refine z_init fun l gX dd hf u hk H' A2 => ?_
    refine i _ _ _ q ((fold_shelf A2 dd u).sub (fold_sub (fun b o h1 h2 => ⟨fun hb => ?_, h2⟩) hk))
    rw [hf b hb] at h2; cases h2
  | @many a _ _ S e q =>
    obtain ⟨l, ts, gU, A1, dd, u, hk⟩ := open_shelf A e
    obtain ⟨i0, i1, i3, i4, i5, i6, i7, i8⟩ := u.ls
    refine ⟨gU, fun v g' => ∀ H', Ab P g' H' → Q v H', A1, ?_, fun _ _ _ h A2 => h _ A2⟩
    refine z_many ?_
    have : (((V.non :: ts.map V.ref).length : Nat) : Int) - 1 = (S.length : Int) := by simp [u.len]
    rw [this]
    exact rd e A1 dd u hk q
  | @piece a _ _ S t pc e hp q =>
    obtain ⟨l, ts, gU, A1, dd, u, hk⟩ := open_shelf A e
    obtain ⟨i0, i1, i3, i4, i5, i6, i7, i8⟩ := u.ls
    refine ⟨gU, fun v g' => ∀ H', Ab P g' H' → Q v H', A1, ?_, fun _ _ _ h A2 => h _ A2⟩
    cases t with
    | zero => cases hp
    | succ n =>
      have hn : n < S.length := by
        cases h : S[n]? with
        | none => simp [pcT, h] at hp
        | some r => exact (List.getElem?_eq_some_iff.mp h).1
      have hn2 : n < ts.length := by rw [u.len]; exact hn
      have hpc : S[n].pc = pc := by simpa [pcT, hn] using hp
      have ht := u.tu n ts[n] S[n] (List.getElem?_eq_getElem hn2) (List.getElem?_eq_getElem hn)
      rw [hpc] at ht
      have hv : atI (V.non :: ts.map V.ref) ((n + 1 : Nat) : Int) = some (.ref ts[n]) := by
        unfold atI ixN
        rw [if_pos (by omega), if_pos (by simp; omega)]
        simp [hn2]
      refine z_piece (by omega) (by simp; omega) hv ?_
      have ad : g ts[n] = none ∨ g ts[n] = some (.tup ((pcK pc).map kV)) := by
        cases hg : g ts[n] with
        | none => exact .inl rfl
        | some o =>
          right
          by_cases hta : ts[n] = a
          · rw [hta, u.o0] at ht; cases ht
          · rw [(hk _ o hta hg).2] at ht; exact ht
      intro H' A2
      refine i _ _ _ (q _ ad) ((fold_shelf A2 dd u).sub ?_)
      intro b o hb
      unfold SW.gu at hb
      split at hb
      · rename_i hbt
        subst hbt
        cases hb
        unfold foldG
        rw [if_neg, if_neg]
        · exact ht
        · intro hl
          have : ∀ c o', gU c = some o' → (∀ ys, o' ≠ .tup ys) → ts[n] ≠ c := fun c o' hc ho z => by rw [← z, ht] at hc; cases hc; exact ho _ rfl
          simp only [ShL.all, List.mem_cons, List.not_mem_nil, or_false] at hl
          rcases hl with z | z | z | z | z | z | z | z
          · exact this _ _ u.o1 (fun _ z => nomatch z) z
          · exact this _ _ u.o2 (fun _ z => nomatch z) z
          · exact this _ _ u.o3 (fun _ z => nomatch z) z
          · exact this _ _ u.o4 (fun _ z => nomatch z) z
          · exact this _ _ u.o5 (fun _ z => nomatch z) z
          · exact this _ _ u.o6 (fun _ z => nomatch z) z
          · exact this _ _ u.o7 (fun _ z => nomatch z) z
          · exact this _ _ u.o8 (fun _ z => nomatch z) z
        · intro z; rw [z, u.o0] at ht; cases ht
      · exact fold_sub hk (fun _ _ _ _ h => h) b o (sub_self e b o hb)
  | @signs a _ _ S t e ht q =>
    obtain ⟨l, ts, gU, A1, dd, u, hk⟩ := open_shelf A e
    obtain ⟨i0, i1, i3, i4, i5, i6, i7, i8⟩ := u.ls
    refine ⟨gU, fun v g' => ∀ H', Ab P g' H' → Q v H', A1, ?_, fun _ _ _ h A2 => h _ A2⟩
    exact z_signs (tl u.len ht) (atI_sg ht) (rd e A1 dd u hk q)
  | @ends a _ _ S t e ht q =>
    obtain ⟨l, ts, gU, A1, dd, u, hk⟩ := open_shelf A e
    obtain ⟨i0, i1, i3, i4, i5, i6, i7, i8⟩ := u.ls
    refine ⟨gU, fun v g' => ∀ H', Ab P g' H' → Q v H', A1, ?_, fun _ _ _ h A2 => h _ A2⟩
    exact z_ends (tl u.len ht) (atI_en ht) (rd e A1 dd u hk q)
  | @leaves a _ _ S t e ht q =>
    obtain ⟨l, ts, gU, A1, dd, u, hk⟩ := open_shelf A e
    obtain ⟨i0, i1, i3, i4, i5, i6, i7, i8⟩ := u.ls
    refine ⟨gU, fun v g' => ∀ H', Ab P g' H' → Q v H', A1, ?_, fun _ _ _ h A2 => h _ A2⟩
    exact z_leaves (tl u.len ht) (atI_lv ht) (rd e A1 dd u hk q)
  | @height a _ _ S t e ht q =>
    obtain ⟨l, ts, gU, A1, dd, u, hk⟩ := open_shelf A e
    obtain ⟨i0, i1, i3, i4, i5, i6, i7, i8⟩ := u.ls
    refine ⟨gU, fun v g' => ∀ H', Ab P g' H' → Q v H', A1, ?_, fun _ _ _ h A2 => h _ A2⟩
    exact z_height (tl u.len ht) (atI_ht ht) (rd e A1 dd u hk q)
  | @first a _ _ S t e ht q =>
    obtain ⟨l, ts, gU, A1, dd, u, hk⟩ := open_shelf A e
    obtain ⟨i0, i1, i3, i4, i5, i6, i7, i8⟩ := u.ls
    refine ⟨gU, fun v g' => ∀ H', Ab P g' H' → Q v H', A1, ?_, fun _ _ _ h A2 => h _ A2⟩
    exact z_first_leaf (tl u.len ht) (atI_fi ht) (rd e A1 dd u hk q)
  | @last a _ _ S t e ht q =>
    obtain ⟨l, ts, gU, A1, dd, u, hk⟩ := open_shelf A e
    obtain ⟨i0, i1, i3, i4, i5, i6, i7, i8⟩ := u.ls
    refine ⟨gU, fun v g' => ∀ H', Ab P g' H' → Q v H', A1, ?_, fun _ _ _ h A2 => h _ A2⟩
    exact z_last_leaf (tl u.len ht) (atI_la ht) (rd e A1 dd u hk q)
  | @loose a _ _ S s t e hs ht hl hf q =>
    obtain ⟨l, ts, gU, A1, dd, u, hk⟩ := open_shelf A e
    obtain ⟨i0, i1, i3, i4, i5, i6, i7, i8⟩ := u.ls
    refine ⟨gU, fun v g' => ∀ H', Ab P g' H' → Q v H', A1, ?_, fun _ _ _ h A2 => h _ A2⟩
    refine z_is_loose (atI_la hs) (atI_sg hl) (atI_fi ht) (atI_sg hf) ?_
    have : decide ((sgT S (laT S s) : Int) + (sgT S (fiT S t) : Int) ≤ 8) = decide (sgT S (laT S s) + sgT S (fiT S t) ≤ 8) := decide_eq_decide.mpr (by omega)
    rw [this]
    exact rd e A1 dd u hk q
  | @leaf a _ _ S S' x n e hd' q =>
    obtain ⟨l, ts, gU, A1, dd, u, hk⟩ := open_shelf A e
    refine ⟨gU, fun v g' => ∀ H', Ab P g' H' → Q v H', A1, ?_, fun _ _ _ h A2 => h _ A2⟩
    exact z_leaf dd u hd' fun gX ts' u' k' H' A2 => i _ _ _ q ((fold_shelf A2 dd u').sub (fold_sub hk k'))
  | @fork a _ _ S S' s t n e hd' q =>
    obtain ⟨l, ts, gU, A1, dd, u, hk⟩ := open_shelf A e
    refine ⟨gU, fun v g' => ∀ H', Ab P g' H' → Q v H', A1, ?_, fun _ _ _ h A2 => h _ A2⟩
    exact z_fork dd u hd' fun gX ts' u' k' H' A2 => i _ _ _ q ((fold_shelf A2 dd u').sub (fold_sub hk k'))
theorem bs_ok (hd : ShD (defsOf es)) (A : AllOk prog w K mg base P es L (Gam kl bz (defsOf es) 3)) : AllOk prog w K mg base P es L bsP :=
  fun e he fd F => (A e he fd F).imp fun vs H Q Ex h => prim_low hd h
theorem bz_ok : AllOk prog w K mg base P es L bz := fun e he fd F =>
  ⟨fun vs H Q E h => by obtain ⟨g, Q', A, h, i⟩ := h; exact h.elim, fun A outer s H args us vs Q E hr e0 b r h => by obtain ⟨g, Q', A, h, i⟩ := h; exact h.elim⟩
/-- the whole text keeps its promises, over the shelf's primitives -/
theorem all_ok {T : Tab} (t : Top T es K mg) (hd : ShD (defsOf es)) (k : Nat) : AllOk prog w K mg base (prmOf T K kl) es (6 + 2 * k) (Gam kl bsP (defsOf es) k) := by
  have h1 := sys_ok (prog := prog) (w := w) (base := base) (kl := kl) (L := 0) (bs := bz) t bz_ok 3
  have h2 := bs_ok hd h1
  exact sys_ok (L := 6) t h2 k
end
end SW
end

section
set_option Elab.async false
set_option linter.all false
set_option maxRecDepth 100000
set_option maxHeartbeats 4000000
/-! The text functions in plain Lean; doing a deed again. -/
namespace SW
open PySem L2
section
variable {α β : Type}
def ret (x : α) : M α := fun S => some (x, S)
def bnd (m : M α) (f : α → M β) : M β := fun S => match m S with
  | some (x, S1) => f x S1
  | none => none
def no : M α := fun _ => none
/-- a look at the shelf, of texts that are there -/
def look (t : Nat) (f : Sh → α) : M α := fun S => if t ≤ S.length then some (f S, S) else none
theorem bnd_some {m : M α} {f : α → M β} {S S' : Sh} {r : β} (h : bnd m f S = some (r, S')) : ∃ x S1, m S = some (x, S1) ∧ f x S1 = some (r, S') := by
  unfold bnd at h
  split at h
  · rename_i x S1 e; exact ⟨x, S1, e, h⟩
  · cases h
theorem bnd_of {m : M α} {f : α → M β} {S S1 : Sh} {x : α} (h : m S = some (x, S1)) : bnd m f S = f x S1 := by unfold bnd; rw [h]
theorem ret_some {x r : α} {S S' : Sh} (h : ret x S = some (r, S')) : x = r ∧ S = S' := by
  unfold ret at h; injection h with h; injection h with h1 h2; exact ⟨h1, h2⟩
theorem look_some {t : Nat} {f : Sh → α} {r : α} {S S' : Sh} (h : look t f S = some (r, S')) : t ≤ S.length ∧ f S = r ∧ S = S' := by
  unfold look at h
  split at h
  · rename_i ht; injection h with h; injection h with h1 h2; exact ⟨ht, h1, h2⟩
  · cases h
/-- a deed done again, later, tells the same and lays nothing -/
class Stb (m : M α) : Prop where
  h : ∀ {S r S'}, m S = some (r, S') → S <+: S' ∧ ∀ S1, S' <+: S1 → m S1 = some (r, S1)
instance {x : α} : Stb (ret x) := ⟨fun h => by obtain ⟨rfl, rfl⟩ := ret_some h; exact ⟨List.prefix_rfl, fun _ _ => rfl⟩⟩
instance : Stb (no : M α) := ⟨fun h => nomatch h⟩
instance {m : M α} {f : α → M β} [a : Stb m] [b : ∀ x, Stb (f x)] : Stb (bnd m f) := ⟨fun h => by
  obtain ⟨x, S1, h1, h2⟩ := bnd_some h
  obtain ⟨p1, q1⟩ := a.h h1
  obtain ⟨p2, q2⟩ := (b x).h h2
  refine ⟨p1.trans p2, fun S2 h3 => ?_⟩
  rw [bnd_of (q1 S2 (p2.trans h3))]
  exact q2 S2 h3⟩
instance {c : Prop} [Decidable c] {m n : M α} [a : Stb m] [b : Stb n] : Stb (if c then m else n) := by split <;> assumption
theorem rdT_pre {S S' : Sh} {f : PRec → Nat} {t : Nat} (p : S <+: S') (h : t ≤ S.length) : rdT S' f t = rdT S f t := by
  obtain ⟨r, rfl⟩ := p; exact rdT_app h
theorem htT_pre {S S' : Sh} {t : Nat} (p : S <+: S') (h : t ≤ S.length) : htT S' t = htT S t := by
  obtain ⟨r, rfl⟩ := p; exact htT_app h
theorem pcT_pre {S S' : Sh} {t : Nat} (p : S <+: S') (h : t ≤ S.length) : pcT S' t = pcT S t := by
  obtain ⟨r, rfl⟩ := p; exact pcT_app h
theorem pcT_le {S : Sh} {t : Nat} {pc : Sum Str (Nat × Nat)} (h : pcT S t = some pc) : 0 < t ∧ t ≤ S.length := by
  cases t with
  | zero => cases h
  | succ n =>
    cases e : S[n]? with
    | none => simp [pcT, e] at h
    | some r => have := (List.getElem?_eq_some_iff.mp e).1; omega
theorem pcT_pre' {S S' : Sh} {t : Nat} {pc : Sum Str (Nat × Nat)} (p : S <+: S') (h : pcT S t = some pc) : pcT S' t = some pc := by
  rw [pcT_pre p (pcT_le h).2]; exact h
theorem look_stb {t : Nat} {f : Sh → α} (hf : ∀ {S S'}, S <+: S' → t ≤ S.length → f S' = f S) : Stb (look t f) := ⟨fun h => by
  obtain ⟨h1, rfl, rfl⟩ := look_some h
  refine ⟨List.prefix_rfl, fun S1 p => ?_⟩
  unfold look
  rw [if_pos (Nat.le_trans h1 p.length_le), hf p h1]⟩
/-! ### lookups of pieces -/
theorem lkF_app {pc : Sum Str (Nat × Nat)} : ∀ {S S' : Sh} {n : Nat}, lkF n (S ++ S') pc = match lkF n S pc with | some m => some m | none => lkF (n + S.length) S' pc
  | [], S', n => rfl
  | r :: S, S', n => by
    simp only [List.cons_append, lkF]
    split
    · rfl
    · rw [lkF_app, List.length_cons, Nat.add_assoc, Nat.add_comm 1]
theorem lkP_pre {S S' : Sh} {pc : Sum Str (Nat × Nat)} {n : Nat} (p : S <+: S') (h : lkP S pc = some n) : lkP S' pc = some n := by
  obtain ⟨r, rfl⟩ := p
  rw [show lkP (S ++ r) pc = _ from lkF_app, show lkF 0 S pc = some n from h]
theorem lkP_new {S : Sh} {r : PRec} (h : lkP S r.pc = none) : lkP (S ++ [r]) r.pc = some (S.length + 1) := by
  rw [show lkP (S ++ [r]) r.pc = _ from lkF_app, show lkF 0 S r.pc = none from h]
  simp [lkF]
theorem putP_stb {S S' : Sh} {r : PRec} {n : Nat} (h : putP r S = some (n, S')) : S <+: S' ∧ lkP S' r.pc = some n := by
  unfold putP at h
  split at h
  · rename_i m hm; cases h; exact ⟨List.prefix_rfl, hm⟩
  · rename_i hm
    split at h
    · cases h; exact ⟨List.prefix_append _ _, lkP_new hm⟩
    · cases h
instance {x : Str} : Stb (leafN x) := ⟨fun h => by
  unfold leafN at h
  split at h
  rotate_left
  · cases h
  rename_i hx
  obtain ⟨p, q⟩ := putP_stb h
  refine ⟨p, fun S1 p1 => ?_⟩
  unfold leafN
  rw [if_pos hx]
  unfold putP
  rw [show lkP S1 (lfR S1 x).pc = _ from lkP_pre p1 q]⟩
instance {a b : Nat} : Stb (forkN a b) := ⟨fun {S r S'} h => by
  unfold forkN at h
  split at h
  rotate_left
  · cases h
  rename_i hx
  obtain ⟨p, q⟩ := putP_stb h
  refine ⟨p, fun S1 p1 => ?_⟩
  unfold forkN
  have p2 := p.trans p1
  have hl := p2.length_le
  have e1 : ∀ {f : PRec → Nat} {t : Nat}, t ≤ S.length → rdT S1 f t = rdT S f t := fun ht => rdT_pre p2 ht
  rw [if_pos]
  · unfold putP
    rw [show lkP S1 (fkR S1 a b).pc = _ from lkP_pre p1 q]
  · obtain ⟨b1, b2, b3, b4, b5, b6, b7, b8, b9, b10⟩ := hx
    refine ⟨b1, by omega, b3, by omega, ?_, ?_, ?_, ?_, ?_, ?_⟩
    · rw [show laT S1 a = laT S a from e1 b2]; omega
    · rw [show fiT S1 b = fiT S b from e1 b4]; omega
    · rw [show laT S1 a = laT S a from e1 b2, show fiT S1 b = fiT S b from e1 b4, show sgT S1 (laT S a) = _ from e1 b5, show sgT S1 (fiT S b) = _ from e1 b6]; exact b7
    · rw [show hgT S1 a = _ from e1 b2, show hgT S1 b = _ from e1 b4]; exact b8
    · rw [show hgT S1 a = _ from e1 b2, show hgT S1 b = _ from e1 b4]; exact b9
    · rw [show sgT S1 a = _ from e1 b2, show sgT S1 b = _ from e1 b4]; exact b10⟩
end
/-! ### looks -/
def htN (t : Nat) : M Int := look t fun S => htT S t
def sgN (t : Nat) : M Nat := look t fun S => sgT S t
def enN (t : Nat) : M Nat := look t fun S => enT S t
def laN (t : Nat) : M Nat := look t fun S => laT S t
def fiN (t : Nat) : M Nat := look t fun S => fiT S t
instance {t : Nat} : Stb (htN t) := look_stb fun p h => htT_pre p h
instance {t : Nat} : Stb (sgN t) := look_stb fun p h => rdT_pre p h
instance {t : Nat} : Stb (enN t) := look_stb fun p h => rdT_pre p h
instance {t : Nat} : Stb (laN t) := look_stb fun p h => rdT_pre p h
instance {t : Nat} : Stb (fiN t) := look_stb fun p h => rdT_pre p h
def pcN (t : Nat) : M (Sum Str (Nat × Nat)) := fun S => (pcT S t).map fun p => (p, S)
theorem pcN_some {t : Nat} {S S' : Sh} {p : Sum Str (Nat × Nat)} (h : pcN t S = some (p, S')) : pcT S t = some p ∧ S = S' := by
  unfold pcN at h
  cases e : pcT S t with
  | none => rw [e] at h; cases h
  | some q => rw [e] at h; cases h; exact ⟨rfl, rfl⟩
instance {t : Nat} : Stb (pcN t) := ⟨fun h => by
  obtain ⟨h1, rfl⟩ := pcN_some h
  refine ⟨List.prefix_rfl, fun S1 p => ?_⟩
  unfold pcN
  rw [pcT_pre' p h1]
  rfl⟩
def partsN (t : Nat) : M (Nat × Nat) := bnd (pcN t) fun p => match p with
  | .inr q => ret q
  | .inl _ => no
instance {t : Nat} : Stb (partsN t) := by
  unfold partsN
  have : ∀ p : Sum Str (Nat × Nat), Stb (match p with | .inr q => ret q | .inl _ => (no : M (Nat × Nat))) := fun p => by cases p <;> infer_instance
  infer_instance
theorem partsN_some {t : Nat} {S S' : Sh} {p : Nat × Nat} (h : partsN t S = some (p, S')) : pcT S t = some (.inr p) ∧ S = S' := by
  obtain ⟨x, S1, h1, h2⟩ := bnd_some h
  obtain ⟨h3, rfl⟩ := pcN_some h1
  cases x with
  | inl x => cases h2
  | inr q => obtain ⟨rfl, rfl⟩ := ret_some h2; exact ⟨h3, rfl⟩
def ltN (t : Nat) : M Str := bnd (pcN t) fun p => match p with
  | .inl x => ret x
  | .inr _ => no
instance {t : Nat} : Stb (ltN t) := by
  unfold ltN
  have : ∀ p : Sum Str (Nat × Nat), Stb (match p with | .inl q => ret q | .inr _ => (no : M Str)) := fun p => by cases p <;> infer_instance
  infer_instance
theorem ltN_some {t : Nat} {S S' : Sh} {x : Str} (h : ltN t S = some (x, S')) : pcT S t = some (.inl x) ∧ S = S' := by
  obtain ⟨y, S1, h1, h2⟩ := bnd_some h
  obtain ⟨h3, rfl⟩ := pcN_some h1
  cases y with
  | inl q => obtain ⟨rfl, rfl⟩ := ret_some h2; exact ⟨h3, rfl⟩
  | inr x => cases h2
def looseN (a b : Nat) : M Bool := bnd (laN a) fun l => bnd (fiN b) fun f => bnd (sgN l) fun x => bnd (sgN f) fun y => ret (decide (x + y ≤ 8))
instance {a b : Nat} : Stb (looseN a b) := by unfold looseN; infer_instance
/-! ### joining -/
def trN (a b : Nat) : M Nat := bnd (partsN b) fun p => bnd (htN p.1) fun h1 => bnd (htN p.2) fun h2 =>
  if h1 ≤ h2 then bnd (forkN a p.1) fun x => forkN x p.2 else bnd (partsN p.1) fun q => bnd (forkN a q.1) fun x => bnd (forkN q.2 p.2) fun y => forkN x y
def tlN (a b : Nat) : M Nat := bnd (partsN a) fun p => bnd (htN p.2) fun h2 => bnd (htN p.1) fun h1 =>
  if h2 ≤ h1 then bnd (forkN p.2 b) fun x => forkN p.1 x else bnd (partsN p.2) fun q => bnd (forkN p.1 q.1) fun x => bnd (forkN q.2 b) fun y => forkN x y
def levN (a b : Nat) : M Nat := bnd (htN b) fun hb => bnd (htN a) fun ha => if ha + 1 < hb then trN a b else if hb + 1 < ha then tlN a b else forkN a b
def lkN : Nat → Nat → Nat → M Nat
  | 0, _, _ => no
  | n + 1, a, b => if a = 0 ∨ b = 0 then ret (a + b) else bnd (htN a) fun ha => bnd (htN b) fun hb =>
    if hb + 1 < ha then bnd (partsN a) fun p => bnd (lkN n p.2 b) fun x => levN p.1 x
    else if ha + 1 < hb then bnd (partsN b) fun p => bnd (lkN n a p.1) fun x => levN x p.2
    else forkN a b
def wlN : Nat → Nat → M Nat
  | 0, _ => no
  | n + 1, t => bnd (htN t) fun h => if h = 0 then ret 0 else bnd (partsN t) fun p => bnd (wlN n p.2) fun x => lkN (n + 3) p.1 x
def wfN : Nat → Nat → M Nat
  | 0, _ => no
  | n + 1, t => bnd (htN t) fun h => if h = 0 then ret 0 else bnd (partsN t) fun p => bnd (wfN n p.1) fun x => lkN (n + 3) x p.2
def poN (n a b : Nat) : M Nat := bnd (laN a) fun la => bnd (ltN la) fun x => bnd (fiN b) fun fb => bnd (ltN fb) fun y => bnd (leafN (x ++ y)) fun m =>
  bnd (wlN n a) fun u => bnd (lkN (n + 3) u m) fun v => bnd (wfN n b) fun w => lkN (n + 3) v w
def joN (n a b : Nat) : M Nat := bnd (sgN a) fun sa => bnd (sgN b) fun sb => if 1000000000000000000 < sa + sb then no else
  if a = 0 ∨ b = 0 then ret (a + b) else bnd (looseN a b) fun l => if l = true then poN n a b else lkN (n + 3) a b
instance {a b : Nat} : Stb (trN a b) := by unfold trN; infer_instance
instance {a b : Nat} : Stb (tlN a b) := by unfold tlN; infer_instance
instance {a b : Nat} : Stb (levN a b) := by unfold levN; infer_instance
theorem lkN_stb : ∀ n a b, Stb (lkN n a b)
  | 0, a, b => by unfold lkN; infer_instance
  | n + 1, a, b => by
    have := lkN_stb n
    unfold lkN; infer_instance
instance {n a b : Nat} : Stb (lkN n a b) := lkN_stb n a b
theorem wlN_stb : ∀ n a, Stb (wlN n a)
  | 0, a => by unfold wlN; infer_instance
  | n + 1, a => by
    have := wlN_stb n
    unfold wlN; infer_instance
instance {n a : Nat} : Stb (wlN n a) := wlN_stb n a
theorem wfN_stb : ∀ n a, Stb (wfN n a)
  | 0, a => by unfold wfN; infer_instance
  | n + 1, a => by
    have := wfN_stb n
    unfold wfN; infer_instance
instance {n a : Nat} : Stb (wfN n a) := wfN_stb n a
instance {n a b : Nat} : Stb (poN n a b) := by unfold poN; infer_instance
instance {n a b : Nat} : Stb (joN n a b) := by unfold joN; infer_instance
/-! ### cutting -/
/-- a part of a leaf -/
def lpN (x : Str) : M Nat := if x.cps.size = 0 then ret 0 else leafN x
instance {x : Str} : Stb (lpN x) := by unfold lpN; infer_instance
def leN (t : Nat) (at_ : Nat) : M (Nat × Nat) := bnd (ltN t) fun x => if 8 < x.cps.size then no else bnd (lpN (cutS x none (some (at_ : Int)))) fun a => bnd (lpN (cutS x (some (at_ : Int)) none)) fun b => ret (a, b)
instance {t at_ : Nat} : Stb (leN t at_) := by unfold leN; infer_instance
def haN : Nat → Nat → Nat → M (Nat × Nat)
  | 0, _, _ => no
  | n + 1, t, at_ => if at_ = 0 then ret (0, t) else bnd (sgN t) fun s => if at_ = s then ret (t, 0) else bnd (htN t) fun h => if h = 0 then leN t at_ else
    bnd (partsN t) fun p => bnd (sgN p.1) fun ahead => if at_ < ahead then bnd (haN n p.1 at_) fun q => bnd (joN (n + 1) q.2 p.2) fun x => ret (q.1, x)
      else bnd (haN n p.2 (at_ - ahead)) fun q => bnd (joN (n + 1) p.1 q.1) fun x => ret (x, q.2)
theorem haN_stb : ∀ n a b, Stb (haN n a b)
  | 0, a, b => by unfold haN; infer_instance
  | n + 1, a, b => by
    have := haN_stb n
    unfold haN; infer_instance
instance {n a b : Nat} : Stb (haN n a b) := haN_stb n a b
/-- want_stretch -/
def wsN (t b e : Nat) : M Unit := bnd (sgN t) fun s => if b ≤ e ∧ e ≤ s then ret () else no
instance {t b e : Nat} : Stb (wsN t b e) := by unfold wsN; infer_instance
def ctN (n t at_ : Nat) : M (Nat × Nat) := bnd (sgN t) fun s => bnd (wsN t at_ s) fun _ => haN n t at_
def piN (n t at_ o : Nat) : M Nat := bnd (sgN t) fun s => bnd (sgN o) fun s2 => bnd (wsN t at_ s) fun _ => if 1000000000000000000 < s + s2 then no else
  bnd (haN n t at_) fun q => bnd (joN (n + 1) q.1 o) fun x => joN (n + 3) x q.2
def tkN (n t b e : Nat) : M Nat := bnd (wsN t b e) fun _ => bnd (haN n t b) fun q => bnd (haN n t e) fun q2 => joN (n + 1) q.1 q2.2
def kpN (n t b e : Nat) : M Nat := bnd (wsN t b e) fun _ => bnd (haN n t e) fun q => bnd (haN n q.1 b) fun q2 => ret q2.2
instance {n t a : Nat} : Stb (ctN n t a) := by unfold ctN; infer_instance
instance {n t a o : Nat} : Stb (piN n t a o) := by unfold piN; infer_instance
instance {n t b e : Nat} : Stb (tkN n t b e) := by unfold tkN; infer_instance
instance {n t b e : Nat} : Stb (kpN n t b e) := by unfold kpN; infer_instance
/-! ### building, repeating -/
def bfN : Nat → List Nat → M Nat
  | 0, _ => no
  | n + 1, xs => if xs.length = 0 then no else if xs.length = 1 then ret (xs.headD 0) else bnd (bfN n (xs.take (xs.length / 2))) fun a => bnd (bfN n (xs.drop (xs.length / 2))) fun b => forkN a b
theorem bfN_stb : ∀ n xs, Stb (bfN n xs)
  | 0, xs => by unfold bfN; infer_instance
  | n + 1, xs => by
    have := bfN_stb n
    unfold bfN; infer_instance
instance {n : Nat} {xs : List Nat} : Stb (bfN n xs) := bfN_stb n xs
/-- leaves of eight signs -/
def lvN (x : Str) : Nat → M (List Nat)
  | 0 => ret []
  | i + 1 => bnd (lvN x i) fun l => bnd (leafN (cutS x (some ((8 * i : Nat) : Int)) (some ((8 * i + 8 : Nat) : Int)))) fun n => ret (l ++ [n])
theorem lvN_stb : ∀ x n, Stb (lvN x n)
  | x, 0 => by unfold lvN; infer_instance
  | x, n + 1 => by
    have := lvN_stb x n
    unfold lvN; infer_instance
instance {n : Nat} {x : Str} : Stb (lvN x n) := lvN_stb x n
def buN (n : Nat) (x : Str) : M Nat := if plainB x = false ∨ 10000 < x.cps.size then no else if x.cps.size = 0 then ret 0 else bnd (lvN x ((x.cps.size + 7) / 8)) fun l => bfN n l
instance {n : Nat} {x : Str} : Stb (buN n x) := by unfold buN; infer_instance
/-- the loop of repeated: found, twice, many -/
def rlN (n : Nat) : Nat → Nat → Nat → Nat → M Nat
  | 0, _, _, _ => no
  | f + 1, found, twice, many => if many = 0 then ret found else bnd (if many % 2 = 1 then joN n found twice else ret found) fun x =>
    bnd (if 0 < many / 2 then joN n twice twice else ret twice) fun y => rlN n f x y (many / 2)
theorem rlN_stb (n : Nat) : ∀ f a b m, Stb (rlN n f a b m)
  | 0, a, b, m => by unfold rlN; infer_instance
  | f + 1, a, b, m => by
    have := rlN_stb n f
    unfold rlN; infer_instance
instance {n f a b m : Nat} : Stb (rlN n f a b m) := rlN_stb n f a b m
def reN (n t many : Nat) : M Nat := bnd (sgN t) fun s => if 1000000000000000000 < s * many then no else if t = 0 then ret 0 else rlN n (many + 1) 0 t many
instance {n t many : Nat} : Stb (reN n t many) := by unfold reN; infer_instance
end SW
end

section
set_option Elab.async false
set_option linter.all false
set_option maxRecDepth 100000
set_option maxHeartbeats 4000000
/-! The text functions' walks. -/
namespace SW
open PySem L2
set_option synthInstance.maxHeartbeats 200000
set_option synthInstance.maxSize 100000
/-- fresh, or there already -/
class Ad (g : G) (p : Addr) (o : O) : Prop where
  h : g p = none ∨ g p = some o
instance (priority := 2000) {g : G} {p : Addr} {o : O} [f : Fr g p] : Ad g p o := ⟨.inl f.h⟩
instance (priority := 400) {g : G} {a b : Addr} {o u : O} [s : At g b u] [n : Ad g a o] : At (gu g a o) b u := ⟨by
  unfold SW.gu
  split
  · rename_i e
    subst e
    rcases n.h with h | h
    · have := s.h; rw [h] at this; cases this
    · have := s.h; rw [h] at this; exact this
  · exact s.h⟩
class SubX (a : Addr) (g g' : G) : Prop where
  h : ∀ b o, b ≠ a → g b = some o → g' b = some o
instance {a : Addr} {g : G} : SubX a g g := ⟨fun _ _ _ h => h⟩
instance (priority := 2000) {a : Addr} {g g' : G} {o : O} [s : SubX a g g'] : SubX a g (gu g' a o) := ⟨fun b u h1 h2 => by rw [gun h1]; exact s.h b u h1 h2⟩
theorem Ad.sub {g : G} {p : Addr} {o : O} (h : Ad g p o) : Sub g (gu g p o) := fun b u hb => by
  unfold SW.gu
  split
  · rename_i e
    subst e
    rcases h.h with h | h
    · rw [h] at hb; cases hb
    · rw [← hb, h]
  · exact hb
instance (priority := 500) {a p : Addr} {g g' : G} {o : O} [s : SubX a g g'] [n : Ad g' p o] : SubX a g (gu g' p o) := ⟨fun b u h1 h2 => n.sub b u (s.h b u h1 h2)⟩
class SubC (g g' : G) : Prop where
  h : Sub g g'
instance {g : G} : SubC g g := ⟨Sub.refl g⟩
instance {p : Addr} {g g' : G} {o : O} [s : SubC g g'] [n : Ad g' p o] : SubC g (gu g' p o) := ⟨s.h.trans n.sub⟩
/-- the same change on both sides -/
instance {a : Addr} {g g' : G} {o : O} [s : SubX a g g'] : SubC (gu g a o) (gu g' a o) := ⟨fun b u hb => by
  unfold SW.gu at hb ⊢
  split
  · rename_i e; rw [if_pos e] at hb; exact hb
  · rename_i e; rw [if_neg e] at hb; exact s.h b u e hb⟩
theorem gu_at {g : G} {a : Addr} {o : O} (h : g a = some o) : gu g a o = g := by
  funext b
  unfold SW.gu
  split
  · rename_i e; rw [e, h]
  · rfl
/-- a change that is none -/
instance (priority := 300) {a : Addr} {g g' : G} {o : O} [s : SubC g g'] [t : At g a o] : SubC (gu g a o) g' := ⟨by rw [gu_at t.h]; exact s.h⟩
theorem fin {g g' : G} {K : G → Prop} [s : SubC g g'] (q : K g) : ∃ g'', Sub g'' g' ∧ K g'' := ⟨g, s.h, q⟩
theorem gu_gu {g : G} {a : Addr} {o u : O} : gu (gu g a o) a u = gu g a u := by
  funext b; unfold SW.gu; split <;> rfl

class JoD (defs : Nat → Option FDef) : Prop where
  h2 : defs 2 = some d_is_plain
  h39 : defs 39 = some d_is_leaf
  h40 : defs 40 = some d_parts_of
  h41 : defs 41 = some d_turned_right
  h42 : defs 42 = some d_turned_left
  h43 : defs 43 = some d_levelled
  h44 : defs 44 = some d_linked
  h45 : defs 45 = some d_without_last
  h46 : defs 46 = some d_without_first
  h47 : defs 47 = some d_leaf_text
  h48 : defs 48 = some d_poured
  h49 : defs 49 = some d_joined
  h50 : defs 50 = some d_built_of
  h51 : defs 51 = some d_built
  h53 : defs 53 = some d_want_stretch
  h54 : defs 54 = some d_leaf_cut
  h55 : defs 55 = some d_halves
section
variable {kl : Addr → List V → Prop} {defs : Nat → Option FDef} {k : Nat} {g : G} {Q : VG} {E : XG} {a : Addr} {S S' : Sh}
theorem gam_base {f : Nat} {vs : List V} (h : PrimOk f vs g Q) : Gam kl bsP defs k f vs g Q E := by
  cases k with
  | zero => exact h
  | succ n => exact .inl h
instance [s : At g a (.shf S)] : Step (Gam kl bsP defs k 12 [.ref a] g Q E) (Q (.int S.length) g) := ⟨fun h => gam_base (.many s.h h)⟩
instance [s : At g a (.shf S)] {t : Nat} : Step (Gam kl bsP defs k 14 [.ref a, .int t] g Q E) (t ≤ S.length ∧ Q (.int (sgT S t)) g) := ⟨fun h => gam_base (.signs s.h h.1 h.2)⟩
instance [s : At g a (.shf S)] {t : Nat} : Step (Gam kl bsP defs k 15 [.ref a, .int t] g Q E) (t ≤ S.length ∧ Q (.int (enT S t)) g) := ⟨fun h => gam_base (.ends s.h h.1 h.2)⟩
instance [s : At g a (.shf S)] {t : Nat} : Step (Gam kl bsP defs k 16 [.ref a, .int t] g Q E) (t ≤ S.length ∧ Q (.int (lvT S t)) g) := ⟨fun h => gam_base (.leaves s.h h.1 h.2)⟩
instance [s : At g a (.shf S)] {t : Nat} : Step (Gam kl bsP defs k 17 [.ref a, .int t] g Q E) (t ≤ S.length ∧ Q (.int (htT S t)) g) := ⟨fun h => gam_base (.height s.h h.1 h.2)⟩
instance [s : At g a (.shf S)] {t : Nat} : Step (Gam kl bsP defs k 18 [.ref a, .int t] g Q E) (t ≤ S.length ∧ Q (.int (fiT S t)) g) := ⟨fun h => gam_base (.first s.h h.1 h.2)⟩
instance [s : At g a (.shf S)] {t : Nat} : Step (Gam kl bsP defs k 19 [.ref a, .int t] g Q E) (t ≤ S.length ∧ Q (.int (laT S t)) g) := ⟨fun h => gam_base (.last s.h h.1 h.2)⟩
instance [s : At g a (.shf S)] {x : Str} {n : Nat} [d : Does (leafN x) S n S'] : Step (Gam kl bsP defs k 21 [.ref a, .str x] g Q E) (Q (.int n) (gu g a (.shf S'))) := ⟨fun h => gam_base (.leaf s.h d.h h)⟩
instance [s : At g a (.shf S)] {x y n : Nat} [d : Does (forkN x y) S n S'] : Step (Gam kl bsP defs k 22 [.ref a, .int x, .int y] g Q E) (Q (.int n) (gu g a (.shf S'))) := ⟨fun h => gam_base (.fork s.h d.h h)⟩
/-- a piece -/
class Pc (S : Sh) (t : Nat) (p : outParam (Sum Str (Nat × Nat))) : Prop where
  h : pcT S t = some p
instance [s : At g a (.shf S)] {t : Nat} {pc : Sum Str (Nat × Nat)} [d : Pc S t pc] : Step (Gam kl bsP defs k 13 [.ref a, .int t] g Q E) (∀ p, Ad g p (.tup ((pcK pc).map kV)) → Q (.ref p) (gu g p (.tup ((pcK pc).map kV)))) := ⟨fun h => gam_base (.piece s.h d.h fun p hp => h p ⟨hp⟩)⟩
instance [s : At g a (.shf S)] {x y : Nat} {b : Bool} [d : Does (looseN x y) S b S'] : Step (Gam kl bsP defs k 23 [.ref a, .int x, .int y] g Q E) (Q (.bl b) g) := ⟨fun h => by
  have hd := d.h
  unfold looseN at hd
  obtain ⟨_, _, e1, hd⟩ := bnd_some hd
  obtain ⟨l1, rfl, rfl⟩ := look_some e1
  obtain ⟨_, _, e1, hd⟩ := bnd_some hd
  obtain ⟨l2, rfl, rfl⟩ := look_some e1
  obtain ⟨_, _, e1, hd⟩ := bnd_some hd
  obtain ⟨l3, rfl, rfl⟩ := look_some e1
  obtain ⟨_, _, e1, hd⟩ := bnd_some hd
  obtain ⟨l4, rfl, rfl⟩ := look_some e1
  obtain ⟨rfl, rfl⟩ := ret_some hd
  exact gam_base (.loose s.h l1 l2 l3 l4 h)⟩
/-- a fork, a leaf -/
class PcF (S : Sh) (t : Nat) (x y : outParam Nat) : Prop where
  h : pcT S t = some (.inr (x, y))
class PcL (S : Sh) (t : Nat) (x : outParam Str) : Prop where
  h : pcT S t = some (.inl x)
instance [s : At g a (.shf S)] {t x y : Nat} [d : PcF S t x y] : Step (Gam kl bsP defs k 13 [.ref a, .int t] g Q E) (∀ p, Ad g p (.tup [.str "fork", .int x, .int y]) → Q (.ref p) (gu g p (.tup [.str "fork", .int x, .int y]))) := ⟨fun h => gam_base (.piece s.h d.h fun p hp => h p ⟨hp⟩)⟩
instance [s : At g a (.shf S)] {t : Nat} {x : Str} [d : PcL S t x] : Step (Gam kl bsP defs k 13 [.ref a, .int t] g Q E) (∀ p, Ad g p (.tup [.str "leaf", .str x]) → Q (.ref p) (gu g p (.tup [.str "leaf", .str x]))) := ⟨fun h => gam_base (.piece s.h d.h fun p hp => h p ⟨hp⟩)⟩
instance {l : TLs} {c : Cal} {σ : L2.St} : Step (eTup l c σ g Q) (l c σ g fun xs g1 => xs.length ≤ sizeLine ∧ ∀ p, Fr g1 p → Q (.ref p) (gu g1 p (.tup xs))) := ⟨fun h => by
  have e : (fun xs g1 => xs.length ≤ sizeLine ∧ ∀ p, Fr g1 p → Q (.ref p) (gu g1 p (.tup xs))) = (fun xs g1 => xs.length ≤ sizeLine ∧ ∀ p, g1 p = none → Q (.ref p) (gu g1 p (.tup xs))) := by
    funext xs g1
    exact propext ⟨fun h => ⟨h.1, fun p f => h.2 p ⟨f⟩⟩, fun h => ⟨h.1, fun p f => h.2 p f.h⟩⟩
  rw [e] at h; exact h⟩
instance {l : TLs} {c : Cal} {σ : L2.St} : Step (eLst l c σ g Q) (l c σ g fun xs g1 => xs.length ≤ sizeLine ∧ ∀ p, Fr g1 p → Q (.ref p) (gu g1 p (.lst xs))) := ⟨fun h => by
  have e : (fun xs g1 => xs.length ≤ sizeLine ∧ ∀ p, Fr g1 p → Q (.ref p) (gu g1 p (.lst xs))) = (fun xs g1 => xs.length ≤ sizeLine ∧ ∀ p, g1 p = none → Q (.ref p) (gu g1 p (.lst xs))) := by
    funext xs g1
    exact propext ⟨fun h => ⟨h.1, fun p f => h.2 p ⟨f⟩⟩, fun h => ⟨h.1, fun p f => h.2 p f.h⟩⟩
  rw [e] at h; exact h⟩
end
end SW
end

section
set_option Elab.async false
set_option linter.all false
set_option maxRecDepth 100000
set_option maxHeartbeats 4000000
/-! Walks: joining. -/
namespace SW
open PySem L2
local macro_rules | `(tactic| walk_at "w") => `(tactic| repeat first | refine go ?_ | refine ifT ?_ | refine ifF ?_ | refine And.intro (by omega) ?_ | refine ifD (by omega) ?_ | refine ifDn (by omega) ?_ | refine ifN (by omega) ?_ | refine ifNn (by omega) ?_ | refine And.intro (by simp [sizeLine, atOf] <;> omega) ?_ | (intro _ _) | fail)
set_option synthInstance.maxHeartbeats 200000
set_option synthInstance.maxSize 100000
section
variable {kl : Addr → List V → Prop} {defs : Nat → Option FDef} {k : Nat} {g : G} {Q : VG} {E : XG} {a : Addr} {S S' : Sh} [jd : JoD defs] [sa : At g a (.shf S)]
theorem w_isleaf {t : Nat} (ht : t ≤ S.length) (hk : 1 ≤ k) (q : Q (.bl (decide (htT S t = 0))) g) : Gam kl bsP defs k 39 [.ref a, .int t] g Q E := by
  obtain ⟨k, rfl⟩ : ∃ j, k = j + 1 := ⟨k - 1, by omega⟩
  refine gam_of jd.h39 rfl ?_
  show b_is_leaf _ _ [some (.ref a), some (.int t)] _
  unfold b_is_leaf
  walk_at "w"
  exact fin q
instance {t : Nat} : Step (Gam kl bsP defs k 39 [.ref a, .int t] g Q E) ((t ≤ S.length ∧ 1 ≤ k) ∧ Q (.bl (decide (htT S t = 0))) g) := ⟨fun h => w_isleaf h.1.1 h.1.2 h.2⟩
theorem w_parts {t x y : Nat} [d : PcF S t x y] (hk : 1 ≤ k) (q : ∀ p, Fr g p → Q (.ref p) (gu g p (.tup [.int x, .int y]))) : Gam kl bsP defs k 40 [.ref a, .int t] g Q E := by
  obtain ⟨k, rfl⟩ : ∃ j, k = j + 1 := ⟨k - 1, by omega⟩
  refine gam_of jd.h40 rfl ?_
  show b_parts_of _ _ [some (.ref a), some (.int t), none, none, none] _
  unfold b_parts_of
  walk_at "w"
  rename_i p2 f2
  exact fin (g := gu g p2 _) (q p2 f2.of_gu)
instance {t x y : Nat} [d : PcF S t x y] : Step (Gam kl bsP defs k 40 [.ref a, .int t] g Q E) (1 ≤ k ∧ ∀ p, Fr g p → Q (.ref p) (gu g p (.tup [.int x, .int y]))) := ⟨fun h => w_parts h.1 h.2⟩
theorem w_tr {x y r : Nat} (h : trN x y S = some (r, S')) (hk : 2 ≤ k) (q : Q (.int r) (gu g a (.shf S'))) : Gam kl bsP defs k 41 [.ref a, .int x, .int y] g Q E := by
  obtain ⟨k, rfl⟩ : ∃ j, k = j + 1 := ⟨k - 1, by omega⟩
  obtain ⟨⟨i, o⟩, _, e1, h⟩ := bnd_some h
  obtain ⟨f1, rfl⟩ := partsN_some e1
  haveI : PcF S y i o := ⟨f1⟩
  obtain ⟨_, _, e1, h⟩ := bnd_some h
  obtain ⟨l1, rfl, rfl⟩ := look_some e1
  obtain ⟨_, _, e1, h⟩ := bnd_some h
  obtain ⟨l2, rfl, rfl⟩ := look_some e1
  refine gam_of jd.h41 rfl ?_
  show b_turned_right _ _ [some (.ref a), some (.int x), some (.int y), none, none, none, none] _
  unfold b_turned_right
  split at h
  · rename_i hc
    obtain ⟨u, S1, e1, h⟩ := bnd_some h
    haveI : Does (forkN x i) S u S1 := ⟨e1⟩
    haveI : Does (forkN u o) S1 r S' := ⟨h⟩
    walk_at "w"
    exact fin q
  · rename_i hc
    obtain ⟨⟨m, n⟩, _, e1, h⟩ := bnd_some h
    obtain ⟨f1, rfl⟩ := partsN_some e1
    haveI : PcF S i m n := ⟨f1⟩
    obtain ⟨u, S1, e1, h⟩ := bnd_some h
    haveI : Does (forkN x m) S u S1 := ⟨e1⟩
    obtain ⟨v, S2, e1, h⟩ := bnd_some h
    haveI : Does (forkN n o) S1 v S2 := ⟨e1⟩
    haveI : Does (forkN u v) S2 r S' := ⟨h⟩
    walk_at "w"
    exact fin q
instance {x y r : Nat} [d : Does (trN x y) S r S'] : Step (Gam kl bsP defs k 41 [.ref a, .int x, .int y] g Q E) (2 ≤ k ∧ Q (.int r) (gu g a (.shf S'))) := ⟨fun h => w_tr d.h h.1 h.2⟩
theorem w_tl {x y r : Nat} (h : tlN x y S = some (r, S')) (hk : 2 ≤ k) (q : Q (.int r) (gu g a (.shf S'))) : Gam kl bsP defs k 42 [.ref a, .int x, .int y] g Q E := by
  obtain ⟨k, rfl⟩ : ∃ j, k = j + 1 := ⟨k - 1, by omega⟩
  obtain ⟨⟨o, i⟩, _, e1, h⟩ := bnd_some h
  obtain ⟨f1, rfl⟩ := partsN_some e1
  haveI : PcF S x o i := ⟨f1⟩
  obtain ⟨_, _, e1, h⟩ := bnd_some h
  obtain ⟨l1, rfl, rfl⟩ := look_some e1
  obtain ⟨_, _, e1, h⟩ := bnd_some h
  obtain ⟨l2, rfl, rfl⟩ := look_some e1
  refine gam_of jd.h42 rfl ?_
  show b_turned_left _ _ [some (.ref a), some (.int x), some (.int y), none, none, none, none] _
  unfold b_turned_left
  split at h
  · rename_i hc
    obtain ⟨u, S1, e1, h⟩ := bnd_some h
    haveI : Does (forkN i y) S u S1 := ⟨e1⟩
    haveI : Does (forkN o u) S1 r S' := ⟨h⟩
    walk_at "w"
    exact fin q
  · rename_i hc
    obtain ⟨⟨m, n⟩, _, e1, h⟩ := bnd_some h
    obtain ⟨f1, rfl⟩ := partsN_some e1
    haveI : PcF S i m n := ⟨f1⟩
    obtain ⟨u, S1, e1, h⟩ := bnd_some h
    haveI : Does (forkN o m) S u S1 := ⟨e1⟩
    obtain ⟨v, S2, e1, h⟩ := bnd_some h
    haveI : Does (forkN n y) S1 v S2 := ⟨e1⟩
    haveI : Does (forkN u v) S2 r S' := ⟨h⟩
    walk_at "w"
    exact fin q
instance {x y r : Nat} [d : Does (tlN x y) S r S'] : Step (Gam kl bsP defs k 42 [.ref a, .int x, .int y] g Q E) (2 ≤ k ∧ Q (.int r) (gu g a (.shf S'))) := ⟨fun h => w_tl d.h h.1 h.2⟩
theorem w_lev {x y r : Nat} (h : levN x y S = some (r, S')) (hk : 3 ≤ k) (q : Q (.int r) (gu g a (.shf S'))) : Gam kl bsP defs k 43 [.ref a, .int x, .int y] g Q E := by
  obtain ⟨k, rfl⟩ : ∃ j, k = j + 1 := ⟨k - 1, by omega⟩
  obtain ⟨_, _, e1, h⟩ := bnd_some h
  obtain ⟨l1, rfl, rfl⟩ := look_some e1
  obtain ⟨_, _, e1, h⟩ := bnd_some h
  obtain ⟨l2, rfl, rfl⟩ := look_some e1
  refine gam_of jd.h43 rfl ?_
  show b_levelled _ _ [some (.ref a), some (.int x), some (.int y)] _
  unfold b_levelled
  split at h
  · rename_i hc
    haveI : Does (trN x y) S r S' := ⟨h⟩
    walk_at "w"
    exact fin q
  · rename_i hc
    split at h
    · haveI : Does (tlN x y) S r S' := ⟨h⟩
      walk_at "w"
      exact fin q
    · haveI : Does (forkN x y) S r S' := ⟨h⟩
      walk_at "w"
      exact fin q
instance {x y r : Nat} [d : Does (levN x y) S r S'] : Step (Gam kl bsP defs k 43 [.ref a, .int x, .int y] g Q E) (3 ≤ k ∧ Q (.int r) (gu g a (.shf S'))) := ⟨fun h => w_lev d.h h.1 h.2⟩
end
end SW
end

section
set_option Elab.async false
set_option linter.all false
set_option maxRecDepth 100000
set_option maxHeartbeats 4000000
/-! Walks: joining. -/
namespace SW
open PySem L2
local macro_rules | `(tactic| walk_at "w") => `(tactic| repeat first | refine go ?_ | refine ifT ?_ | refine ifF ?_ | refine And.intro (by omega) ?_ | refine ifD (by omega) ?_ | refine ifDn (by omega) ?_ | refine ifN (by omega) ?_ | refine ifNn (by omega) ?_ | refine And.intro (by simp [sizeLine, atOf] <;> omega) ?_ | (intro _ _) | fail)
set_option synthInstance.maxHeartbeats 200000
set_option synthInstance.maxSize 100000
section
variable {kl : Addr → List V → Prop} {defs : Nat → Option FDef} {k : Nat} {g : G} {Q : VG} {E : XG} {a : Addr} {S S' : Sh} [jd : JoD defs] [sa : At g a (.shf S)]
theorem w_lk : ∀ {n k : Nat} {g : G} {Q : VG} {E : XG} {S S' : Sh} [sa : At g a (.shf S)] {x y r : Nat} (h : lkN n x y S = some (r, S')) (hk : n + 3 ≤ k) (q : Q (.int r) (gu g a (.shf S'))), Gam kl bsP defs k 44 [.ref a, .int x, .int y] g Q E
  | 0, _, _, _, _, _, _, _, _, _, _, h, _, _ => nomatch h
  | n + 1, k, g, Q, E, S, S', sa, x, y, r, h, hk, q => by
    obtain ⟨k, rfl⟩ : ∃ j, k = j + 1 := ⟨k - 1, by omega⟩
    refine gam_of jd.h44 rfl ?_
    show b_linked _ _ [some (.ref a), some (.int x), some (.int y), none, none] _
    unfold b_linked
    unfold lkN at h
    split at h
    · rename_i hc
      obtain ⟨rfl, rfl⟩ := ret_some h
      rw [Int.natCast_add] at q
      by_cases hx : x = 0
      · walk_at "w"
        exact fin q
      · have hy : y = 0 := by omega
        walk_at "w"
        exact fin q
    · rename_i hc
      have hx : x ≠ 0 := by omega
      have hy : y ≠ 0 := by omega
      obtain ⟨_, _, e1, h⟩ := bnd_some h
      obtain ⟨l1, rfl, rfl⟩ := look_some e1
      obtain ⟨_, _, e1, h⟩ := bnd_some h
      obtain ⟨l2, rfl, rfl⟩ := look_some e1
      split at h
      · rename_i hc
        obtain ⟨⟨i, o⟩, _, e1, h⟩ := bnd_some h
        obtain ⟨f1, rfl⟩ := partsN_some e1
        haveI : PcF S x i o := ⟨f1⟩
        obtain ⟨u, S1, e1, h⟩ := bnd_some h
        haveI : Does (levN i u) S1 r S' := ⟨h⟩
        walk_at "w"
        refine w_lk e1 (by omega) ?_
        walk_at "w"
        exact fin q
      · rename_i hc
        split at h
        · rename_i hc
          obtain ⟨⟨i, o⟩, _, e1, h⟩ := bnd_some h
          obtain ⟨f1, rfl⟩ := partsN_some e1
          haveI : PcF S y i o := ⟨f1⟩
          obtain ⟨u, S1, e1, h⟩ := bnd_some h
          haveI : Does (levN u o) S1 r S' := ⟨h⟩
          walk_at "w"
          refine w_lk e1 (by omega) ?_
          walk_at "w"
          exact fin q
        · haveI : Does (forkN x y) S r S' := ⟨h⟩
          walk_at "w"
          exact fin q
class DoesF (m : Nat → M α) (n : outParam Nat) (S : Sh) (r : outParam α) (S' : outParam Sh) : Prop where
  h : m n S = some (r, S')
instance {x y r n : Nat} [d : DoesF (fun n => lkN n x y) n S r S'] : Step (Gam kl bsP defs k 44 [.ref a, .int x, .int y] g Q E) (n + 3 ≤ k ∧ Q (.int r) (gu g a (.shf S'))) := ⟨fun h => w_lk d.h h.1 h.2⟩
theorem w_wl : ∀ {n k : Nat} {g : G} {Q : VG} {E : XG} {S S' : Sh} [sa : At g a (.shf S)] {x r : Nat} (h : wlN n x S = some (r, S')) (hk : n + 7 ≤ k) (q : Q (.int r) (gu g a (.shf S'))), Gam kl bsP defs k 45 [.ref a, .int x] g Q E
  | 0, _, _, _, _, _, _, _, _, _, h, _, _ => nomatch h
  | n + 1, k, g, Q, E, S, S', sa, x, r, h, hk, q => by
    obtain ⟨k, rfl⟩ : ∃ j, k = j + 1 := ⟨k - 1, by omega⟩
    refine gam_of jd.h45 rfl ?_
    show b_without_last _ _ [some (.ref a), some (.int x), none, none] _
    unfold b_without_last
    unfold wlN at h
    obtain ⟨_, _, e1, h⟩ := bnd_some h
    obtain ⟨l1, rfl, rfl⟩ := look_some e1
    split at h
    · rename_i hc
      obtain ⟨rfl, rfl⟩ := ret_some h
      walk_at "w"
      exact fin q
    · rename_i hc
      obtain ⟨⟨i, o⟩, _, e1, h⟩ := bnd_some h
      obtain ⟨f1, rfl⟩ := partsN_some e1
      haveI : PcF S x i o := ⟨f1⟩
      obtain ⟨u, S1, e1, h⟩ := bnd_some h
      haveI : DoesF (fun n => lkN n i u) (n + 3) S1 r S' := ⟨h⟩
      walk_at "w"
      refine w_wl e1 (by omega) ?_
      walk_at "w"
      exact fin q
theorem w_wf : ∀ {n k : Nat} {g : G} {Q : VG} {E : XG} {S S' : Sh} [sa : At g a (.shf S)] {x r : Nat} (h : wfN n x S = some (r, S')) (hk : n + 7 ≤ k) (q : Q (.int r) (gu g a (.shf S'))), Gam kl bsP defs k 46 [.ref a, .int x] g Q E
  | 0, _, _, _, _, _, _, _, _, _, h, _, _ => nomatch h
  | n + 1, k, g, Q, E, S, S', sa, x, r, h, hk, q => by
    obtain ⟨k, rfl⟩ : ∃ j, k = j + 1 := ⟨k - 1, by omega⟩
    refine gam_of jd.h46 rfl ?_
    show b_without_first _ _ [some (.ref a), some (.int x), none, none] _
    unfold b_without_first
    unfold wfN at h
    obtain ⟨_, _, e1, h⟩ := bnd_some h
    obtain ⟨l1, rfl, rfl⟩ := look_some e1
    split at h
    · rename_i hc
      obtain ⟨rfl, rfl⟩ := ret_some h
      walk_at "w"
      exact fin q
    · rename_i hc
      obtain ⟨⟨i, o⟩, _, e1, h⟩ := bnd_some h
      obtain ⟨f1, rfl⟩ := partsN_some e1
      haveI : PcF S x i o := ⟨f1⟩
      obtain ⟨u, S1, e1, h⟩ := bnd_some h
      haveI : DoesF (fun n => lkN n u o) (n + 3) S1 r S' := ⟨h⟩
      walk_at "w"
      refine w_wf e1 (by omega) ?_
      walk_at "w"
      exact fin q
instance {x r n : Nat} [d : DoesF (fun n => wlN n x) n S r S'] : Step (Gam kl bsP defs k 45 [.ref a, .int x] g Q E) (n + 7 ≤ k ∧ Q (.int r) (gu g a (.shf S'))) := ⟨fun h => w_wl d.h h.1 h.2⟩
instance {x r n : Nat} [d : DoesF (fun n => wfN n x) n S r S'] : Step (Gam kl bsP defs k 46 [.ref a, .int x] g Q E) (n + 7 ≤ k ∧ Q (.int r) (gu g a (.shf S'))) := ⟨fun h => w_wf d.h h.1 h.2⟩
theorem w_lt {t : Nat} {x : Str} [d : PcL S t x] (hk : 1 ≤ k) (q : Q (.str x) g) : Gam kl bsP defs k 47 [.ref a, .int t] g Q E := by
  obtain ⟨k, rfl⟩ : ∃ j, k = j + 1 := ⟨k - 1, by omega⟩
  refine gam_of jd.h47 rfl ?_
  show b_leaf_text _ _ [some (.ref a), some (.int t)] _
  unfold b_leaf_text
  walk_at "w"
  exact ⟨.str x, rfl, fin q⟩
instance {t : Nat} {x : Str} [d : PcL S t x] : Step (Gam kl bsP defs k 47 [.ref a, .int t] g Q E) (1 ≤ k ∧ Q (.str x) g) := ⟨fun h => w_lt h.1 h.2⟩
theorem leafN_len {x : Str} {S S' : Sh} {n : Nat} (h : leafN x S = some (n, S')) : x.cps.size ≤ 8 := by
  unfold leafN at h
  split at h
  · rename_i hx; exact hx.2.2
  · cases h
theorem w_po {n x y r : Nat} (h : poN n x y S = some (r, S')) (hk : n + 8 ≤ k) (q : Q (.int r) (gu g a (.shf S'))) : Gam kl bsP defs k 48 [.ref a, .int x, .int y] g Q E := by
  obtain ⟨k, rfl⟩ : ∃ j, k = j + 1 := ⟨k - 1, by omega⟩
  refine gam_of jd.h48 rfl ?_
  show b_poured _ _ [some (.ref a), some (.int x), some (.int y), none, none, none] _
  unfold b_poured
  unfold poN at h
  obtain ⟨_, _, e1, h⟩ := bnd_some h
  obtain ⟨l1, rfl, rfl⟩ := look_some e1
  obtain ⟨u, _, e1, h⟩ := bnd_some h
  obtain ⟨f1, rfl⟩ := ltN_some e1
  haveI : PcL S (laT S x) u := ⟨f1⟩
  obtain ⟨_, _, e1, h⟩ := bnd_some h
  obtain ⟨l2, rfl, rfl⟩ := look_some e1
  obtain ⟨v, _, e1, h⟩ := bnd_some h
  obtain ⟨f1, rfl⟩ := ltN_some e1
  haveI : PcL S (fiT S y) v := ⟨f1⟩
  obtain ⟨m, S1, e1, h⟩ := bnd_some h
  have hlen := leafN_len e1
  have hsz : u.length + v.length ≤ sizeLine := by
    have e : (u ++ v).cps.size = u.length + v.length := by show (u.cps ++ v.cps).size = _; simp [Str.length]
    have hs : sizeLine = 16777216 := rfl
    omega
  haveI : Does (leafN (u ++ v)) S m S1 := ⟨e1⟩
  obtain ⟨w1, S2, e1, h⟩ := bnd_some h
  haveI : DoesF (fun n => wlN n x) n S1 w1 S2 := ⟨e1⟩
  obtain ⟨w2, S3, e1, h⟩ := bnd_some h
  haveI : DoesF (fun n => lkN n w1 m) (n + 3) S2 w2 S3 := ⟨e1⟩
  obtain ⟨w3, S4, e1, h⟩ := bnd_some h
  haveI : DoesF (fun n => wfN n y) n S3 w3 S4 := ⟨e1⟩
  haveI : DoesF (fun n => lkN n w2 w3) (n + 3) S4 r S' := ⟨h⟩
  walk_at "w"
  exact fin q
instance {x y r n : Nat} [d : DoesF (fun n => poN n x y) n S r S'] : Step (Gam kl bsP defs k 48 [.ref a, .int x, .int y] g Q E) (n + 8 ≤ k ∧ Q (.int r) (gu g a (.shf S'))) := ⟨fun h => w_po d.h h.1 h.2⟩
theorem looseN_some {x y : Nat} {b : Bool} (h : looseN x y S = some (b, S')) : S = S' ∧ x ≤ S.length ∧ y ≤ S.length ∧ b = decide (sgT S (laT S x) + sgT S (fiT S y) ≤ 8) := by
  unfold looseN at h
  obtain ⟨_, _, e1, h⟩ := bnd_some h
  obtain ⟨l1, rfl, rfl⟩ := look_some e1
  obtain ⟨_, _, e1, h⟩ := bnd_some h
  obtain ⟨l2, rfl, rfl⟩ := look_some e1
  obtain ⟨_, _, e1, h⟩ := bnd_some h
  obtain ⟨l3, rfl, rfl⟩ := look_some e1
  obtain ⟨_, _, e1, h⟩ := bnd_some h
  obtain ⟨l4, rfl, rfl⟩ := look_some e1
  obtain ⟨rfl, rfl⟩ := ret_some h
  exact ⟨rfl, l1, l2, rfl⟩
theorem w_jo {n x y r : Nat} (h : joN n x y S = some (r, S')) (hk : n + 9 ≤ k) (q : Q (.int r) (gu g a (.shf S'))) : Gam kl bsP defs k 49 [.ref a, .int x, .int y] g Q E := by
  obtain ⟨k, rfl⟩ : ∃ j, k = j + 1 := ⟨k - 1, by omega⟩
  refine gam_of jd.h49 rfl ?_
  show b_joined _ _ [some (.ref a), some (.int x), some (.int y)] _
  unfold b_joined
  unfold joN at h
  obtain ⟨_, _, e1, h⟩ := bnd_some h
  obtain ⟨l1, rfl, rfl⟩ := look_some e1
  obtain ⟨_, _, e1, h⟩ := bnd_some h
  obtain ⟨l2, rfl, rfl⟩ := look_some e1
  split at h
  · cases h
  rename_i hs
  split at h
  · rename_i hc
    obtain ⟨rfl, rfl⟩ := ret_some h
    rw [Int.natCast_add] at q
    by_cases hx : x = 0
    · walk_at "w"
      exact fin q
    · have hy : y = 0 := by omega
      walk_at "w"
      exact fin q
  · rename_i hc
    have hx : x ≠ 0 := by omega
    have hy : y ≠ 0 := by omega
    obtain ⟨b, _, e1, h⟩ := bnd_some h
    obtain ⟨rfl, _, _, _⟩ := looseN_some e1
    haveI : Does (looseN x y) S b S := ⟨e1⟩
    split at h
    · rename_i hb
      subst hb
      haveI : DoesF (fun n => poN n x y) n S r S' := ⟨h⟩
      walk_at "w"
      exact fin q
    · rename_i hb
      have hb : b = false := by simpa using hb
      subst hb
      haveI : DoesF (fun n => lkN n x y) (n + 3) S r S' := ⟨h⟩
      walk_at "w"
      exact fin q
instance {x y r n : Nat} [d : DoesF (fun n => joN n x y) n S r S'] : Step (Gam kl bsP defs k 49 [.ref a, .int x, .int y] g Q E) (n + 9 ≤ k ∧ Q (.int r) (gu g a (.shf S'))) := ⟨fun h => w_jo d.h h.1 h.2⟩
end
end SW
end

section
set_option Elab.async false
set_option linter.all false
set_option maxRecDepth 100000
set_option maxHeartbeats 4000000
/-! Walks: cutting. -/
namespace SW
open PySem L2
local macro_rules | `(tactic| walk_at "w") => `(tactic| repeat first | refine go ?_ | refine ifT ?_ | refine ifF ?_ | refine And.intro (by omega) ?_ | refine ifD (by omega) ?_ | refine ifDn (by omega) ?_ | refine ifN (by omega) ?_ | refine ifNn (by omega) ?_ | refine And.intro (by simp [sizeLine, atOf] <;> omega) ?_ | (intro _ _) | fail)
set_option synthInstance.maxHeartbeats 200000
set_option synthInstance.maxSize 100000
instance {g : G} {a p : Addr} {o u : O} [f : Fr g p] [s : At g a u] : Fr (gu g a o) p := ⟨by
  rw [gun]
  · exact f.h
  · rintro rfl; have := f.h; rw [s.h] at this; cases this⟩
instance (priority := 300) {g g' : G} {a b : Addr} {o : O} [s : SubX b g g'] [t : At g a o] : SubX b (gu g a o) g' := ⟨by rw [gu_at t.h]; exact s.h⟩
instance (priority := 3000) {g g' : G} {a b : Addr} {o : O} [s : SubX a g g'] : SubX b (gu g a o) (gu g' a o) := ⟨fun c u h1 h2 => by
  unfold SW.gu at h2 ⊢
  split
  · rename_i e; rw [if_pos e] at h2; exact h2
  · rename_i e; rw [if_neg e] at h2; exact s.h c u e h2⟩
theorem str_nil {s : Str} : s = Str.ofString "" ↔ s.cps.size = 0 := by
  have e : Str.ofString "" = ⟨#[]⟩ := by kernel_rfl
  rw [e]
  constructor
  · rintro rfl; rfl
  · intro h
    obtain ⟨c⟩ := s
    have : c = #[] := Array.eq_empty_of_size_eq_zero h
    rw [this]
section
variable {kl : Addr → List V → Prop} {defs : Nat → Option FDef} {k : Nat} {g : G} {Q : VG} {E : XG} {a : Addr} {S S' : Sh} [jd : JoD defs] [sa : At g a (.shf S)]
theorem w_ws {t b e : Nat} {u : Unit} (h : wsN t b e S = some (u, S')) (hk : 1 ≤ k) (q : Q .non g) : Gam kl bsP defs k 53 [.ref a, .int t, .int b, .int e] g Q E := by
  obtain ⟨k, rfl⟩ : ∃ j, k = j + 1 := ⟨k - 1, by omega⟩
  refine gam_of jd.h53 rfl ?_
  show b_want_stretch _ _ [some (.ref a), some (.int t), some (.int b), some (.int e), none] _
  unfold b_want_stretch
  unfold wsN at h
  obtain ⟨_, _, e1, h⟩ := bnd_some h
  obtain ⟨l1, rfl, rfl⟩ := look_some e1
  split at h
  rotate_left
  · cases h
  rename_i hc
  walk_at "w"
  exact fin q
theorem wsN_some {t b e : Nat} {u : Unit} (h : wsN t b e S = some (u, S')) : S = S' ∧ t ≤ S.length ∧ b ≤ e ∧ e ≤ sgT S t := by
  unfold wsN at h
  obtain ⟨_, _, e1, h⟩ := bnd_some h
  obtain ⟨l1, rfl, rfl⟩ := look_some e1
  split at h
  · rename_i hc; obtain ⟨_, rfl⟩ := ret_some h; exact ⟨rfl, l1, hc.1, hc.2⟩
  · cases h
instance {t b e : Nat} {u : Unit} [d : Does (wsN t b e) S u S'] : Step (Gam kl bsP defs k 53 [.ref a, .int t, .int b, .int e] g Q E) (1 ≤ k ∧ Q .non g) := ⟨fun h => w_ws d.h h.1 h.2⟩
/-- a part of a leaf, laid -/
theorem lpN_cases {x : Str} {n : Nat} (h : lpN x S = some (n, S')) : (x.cps.size = 0 ∧ n = 0 ∧ S' = S) ∨ (x.cps.size ≠ 0 ∧ leafN x S = some (n, S')) := by
  unfold lpN at h
  split at h
  · rename_i e; obtain ⟨rfl, rfl⟩ := ret_some h; exact .inl ⟨e, rfl, rfl⟩
  · rename_i e; exact .inr ⟨e, h⟩
theorem w_le {t at_ : Nat} {r : Nat × Nat} (h : leN t at_ S = some (r, S')) (hk : 2 ≤ k) (q : ∀ p, Fr (gu g a (.shf S')) p → Q (.ref p) (gu (gu g a (.shf S')) p (.tup [.int r.1, .int r.2]))) : Gam kl bsP defs k 54 [.ref a, .int t, .int at_] g Q E := by
  obtain ⟨k, rfl⟩ : ∃ j, k = j + 1 := ⟨k - 1, by omega⟩
  refine gam_of jd.h54 rfl ?_
  show b_leaf_cut _ _ [some (.ref a), some (.int t), some (.int at_), none, none, none] _
  unfold b_leaf_cut
  unfold leN at h
  obtain ⟨x, _, e1, h⟩ := bnd_some h
  obtain ⟨f1, rfl⟩ := ltN_some e1
  haveI : PcL S t x := ⟨f1⟩
  split at h
  · cases h
  rename_i hx
  have hs : sizeLine = 16777216 := rfl
  have hxl : x.length = x.cps.size := rfl
  obtain ⟨m, S1, e1, h⟩ := bnd_some h
  obtain ⟨n, S2, e2, h⟩ := bnd_some h
  obtain ⟨rfl, rfl⟩ := ret_some h
  generalize hc1 : cutS x none (some (at_ : Int)) = c1 at *
  generalize hc2 : cutS x (some (at_ : Int)) none = c2 at *
  repeat refine go ?_
  refine ⟨by omega, ?_⟩
  repeat refine go ?_
  refine ⟨by simp, fun p fp => ?_⟩
  haveI n1 : NeA a p := NeA.of_fr sa fp
  haveI n2 : NeA p a := n1.symm
  repeat refine go ?_
  refine ⟨by omega, ?_⟩
  repeat refine go ?_
  refine ⟨by omega, ?_⟩
  rw [hc1, hc2]
  repeat refine go ?_
  refine ⟨by simp [sizeLine], fun l fl => ?_⟩
  haveI n3 : NeA p l := NeA.of_fr (g := gu g p (.lst [])) inferInstance fl
  haveI n4 : NeA l p := n3.symm
  haveI n5 : NeA a l := NeA.of_fr (g := gu g p (.lst [])) inferInstance fl
  haveI n6 : NeA l a := n5.symm
  repeat refine go ?_
  let σ : Option V → L2.St := fun v => [some (.ref a), some (.int t), some (.int at_), some (.str x), some (.ref p), v]
  let gl : Sh → List V → G := fun S xs => gu (gu (gu g a (.shf S)) p (.lst xs)) l (.lst [.str c1, .str c2])
  have fp' : ∀ S, Fr (gu g a (.shf S)) p := fun S => inferInstance
  have ad : ∀ S xs, Ad (gu (gu g a (.shf S)) p (.lst xs)) l (.lst [.str c1, .str c2]) := fun S xs => ⟨.inl (by
    rw [gun n4.h, gun n6.h]; exact fl.of_gu.h)⟩
  have e0 : gu (gu g p (.lst [])) l (.lst [.str c1, .str c2]) = gl S [] := by show _ = gu (gu (gu g a (.shf S)) p _) l _; rw [gu_at sa.h]
  rw [e0]
  have turn : ∀ (c : Str) (S S1 : Sh) (xs : List V) (n : Nat) (nx : L2.St → G → Prop) (fn : Nat → SpG) (rt : VG) (bk ct : L2.St → G → Prop), xs.length < 5 → lpN c S = some (n, S1) → nx (σ (some (.str c))) (gl S1 (xs ++ [.int n])) → (fn = Gam kl bsP defs k) →
      ∀ er, sSeq (sIf (tBl (eCmp .Eq (eV 5) (eC (.str "")))) (sSeq (sDrop (eBm .append (eV 4) (lCons (eC (.int 0)) lNil))) sNext) (sSeq (sDrop (eBm .append (eV 4) (lCons (eMt [(0, 21)] (eV 0) (lCons (eV 5) lNil)) lNil))) sNext)) sNext ⟨kl, fn, er⟩ ⟨nx, rt, bk, ct⟩ (σ (some (.str c))) (gl S xs) := by
    intro c S S1 xs n nx fn rt bk ct hx hl hn hf er
    subst hf
    show sSeq _ _ _ _ [some (.ref a), some (.int t), some (.int at_), some (.str x), some (.ref p), some (.str c)] (gu (gu (gu g a (.shf S)) p (.lst xs)) l (.lst [.str c1, .str c2]))
    haveI := ad S xs
    have re : ∀ (S S1 : Sh) (xs ys : List V), gu (gu (gl S xs) a (.shf S1)) p (.lst ys) = gl S1 ys := by
      intro S S1 xs ys
      funext b
      show gu (gu (gu (gu (gu g a _) p _) l _) a _) p _ b = gu (gu (gu g a _) p _) l _ b
      unfold SW.gu
      have m1 := n1.h
      have m3 := n3.h
      have m5 := n5.h
      by_cases b1 : b = p
      · subst b1; simp [m3]
      · by_cases b2 : b = a
        · subst b2; simp [m1, m5]
        · simp [b1, b2]
    have re2 : ∀ (S : Sh) (xs ys : List V), gu (gl S xs) p (.lst ys) = gl S ys := by
      intro S xs ys
      have := re S S xs ys
      rw [gu_at (show gl S xs a = some (.shf S) from by show gu (gu (gu g a _) p _) l _ a = _; rw [gun n5.h, gun n1.h, gus])] at this
      exact this
    repeat refine go ?_
    rcases lpN_cases hl with ⟨h1, h2, h3⟩ | ⟨h1, h2⟩
    · subst h2 h3
      refine ifD (str_nil.mpr h1) ?_
      repeat refine go ?_
      refine ⟨by omega, ?_⟩
      repeat refine go ?_
      have := re2 S1 xs (xs ++ [.int 0])
      rw [show gu (gu (gu (gu g a (.shf S1)) p (.lst xs)) l (.lst [.str c1, .str c2])) p (.lst (xs ++ [.int 0])) = gl S1 (xs ++ [.int 0]) from this]
      exact hn
    · refine ifDn (fun z => h1 (str_nil.mp z)) ?_
      haveI : Does (leafN c) S n S1 := ⟨h2⟩
      repeat refine go ?_
      refine ⟨by omega, ?_⟩
      repeat refine go ?_
      rw [show gu (gu (gu (gu (gu g a (.shf S)) p (.lst xs)) l (.lst [.str c1, .str c2])) a (.shf S1)) p (.lst (xs ++ [.int n])) = gl S1 (xs ++ [.int n]) from re S S1 xs _]
      exact hn
  refine ⟨fun i s g2 => (i = 0 ∧ s = σ none ∧ g2 = gl S []) ∨ (i = 1 ∧ s = σ (some (.str c1)) ∧ g2 = gl S1 [.int m]) ∨ (i = 2 ∧ s = σ (some (.str c2)) ∧ g2 = gl S2 [.int m, .int n]), .inl ⟨rfl, rfl, rfl⟩, ?_⟩
  rintro i s g2 (⟨rfl, rfl, rfl⟩ | ⟨rfl, rfl, rfl⟩ | ⟨rfl, rfl, rfl⟩)
  · refine ⟨.inl gus, ?_⟩
    rw [if_pos (by simp [Sq.len])]
    intro y hy
    cases hy
    refine turn c1 S S1 [] m _ _ _ _ _ (by simp) e1 ?_ rfl _
    exact ⟨_, Sub.refl _, .inr (.inl ⟨rfl, rfl, rfl⟩)⟩
  · refine ⟨.inl gus, ?_⟩
    rw [if_pos (by simp [Sq.len])]
    intro y hy
    cases hy
    refine turn c2 S1 S2 [.int m] n _ _ _ _ _ (by simp) e2 ?_ rfl _
    exact ⟨_, Sub.refl _, .inr (.inr ⟨rfl, rfl, rfl⟩)⟩
  · refine ⟨.inl gus, ?_⟩
    rw [if_neg (by simp [Sq.len])]
    haveI := ad S2 [.int m, .int n]
    dsimp only [σ, gl]
    repeat refine go ?_
    refine ⟨.int m, rfl, ?_⟩
    repeat refine go ?_
    refine ⟨.int n, rfl, ?_⟩
    repeat refine go ?_
    refine ⟨by simp [sizeLine], fun r fr => ?_⟩
    have f1 : Fr (gu g a (.shf S2)) r := fr.of_gu.of_gu
    haveI : Ad (gu g a (.shf S2)) p (.lst [.int m, .int n]) := ⟨.inl (by rw [gun n2.h]; exact fp.h)⟩
    exact fin (q r f1)
end
end SW
end

section
set_option Elab.async false
set_option linter.all false
set_option maxRecDepth 100000
set_option maxHeartbeats 4000000
/-! Walks: cutting. -/
namespace SW
open PySem L2
local macro_rules | `(tactic| walk_at "w") => `(tactic| repeat first | refine go ?_ | refine ifT ?_ | refine ifF ?_ | refine And.intro (by omega) ?_ | refine ifD (by omega) ?_ | refine ifDn (by omega) ?_ | refine ifN (by omega) ?_ | refine ifNn (by omega) ?_ | refine And.intro (by simp [sizeLine, atOf] <;> omega) ?_ | (intro _ _) | fail)
set_option synthInstance.maxHeartbeats 200000
set_option synthInstance.maxSize 100000
class DefAt (defs : Nat → Option FDef) (f : Nat) (d : FDef) : Prop where
  h : defs f = some d
section
variable {kl : Addr → List V → Prop} {defs : Nat → Option FDef} {k : Nat} {g : G} {Q : VG} {E : XG} {a : Addr} {S S' : Sh} [jd : JoD defs] [sa : At g a (.shf S)]
theorem w_ha : ∀ {n k : Nat} {g : G} {Q : VG} {E : XG} {S S' : Sh} [sa : At g a (.shf S)] {t at_ : Nat} {r : Nat × Nat} (h : haN n t at_ S = some (r, S')) (hk : n + 11 ≤ k)
    (q : ∀ p, Fr (gu g a (.shf S')) p → Q (.ref p) (gu (gu g a (.shf S')) p (.tup [.int r.1, .int r.2]))), Gam kl bsP defs k 55 [.ref a, .int t, .int at_] g Q E
  | 0, _, _, _, _, _, _, _, _, _, _, h, _, _ => nomatch h
  | n + 1, k, g, Q, E, S, S', sa, t, at_, r, h, hk, q => by
    obtain ⟨k, rfl⟩ : ∃ j, k = j + 1 := ⟨k - 1, by omega⟩
    refine gam_of jd.h55 rfl ?_
    show b_halves _ _ [some (.ref a), some (.int t), some (.int at_), none, none, none, none, none] _
    unfold b_halves
    unfold haN at h
    split at h
    · rename_i hc
      obtain ⟨rfl, rfl⟩ := ret_some h
      repeat refine go ?_
      refine ifD (by omega) ?_
      repeat refine go ?_
      refine ⟨by simp [sizeLine], fun p fp => ?_⟩
      exact fin (q p inferInstance)
    rename_i h0
    obtain ⟨_, _, e1, h⟩ := bnd_some h
    obtain ⟨l1, rfl, rfl⟩ := look_some e1
    split at h
    · rename_i hc
      obtain ⟨rfl, rfl⟩ := ret_some h
      repeat refine go ?_
      refine ifDn (by omega) ?_
      repeat refine go ?_
      refine ⟨l1, ?_⟩
      repeat refine go ?_
      refine ifD (by omega) ?_
      repeat refine go ?_
      refine ⟨by simp [sizeLine], fun p fp => ?_⟩
      exact fin (q p inferInstance)
    rename_i hs
    obtain ⟨_, _, e1, h⟩ := bnd_some h
    obtain ⟨_, rfl, rfl⟩ := look_some e1
    split at h
    · rename_i hc
      walk_at "w"
      refine w_le h (by omega) fun p fp => ?_
      exact fin (q p fp)
    rename_i hh
    obtain ⟨⟨x, y⟩, _, e1, h⟩ := bnd_some h
    obtain ⟨f1, rfl⟩ := partsN_some e1
    haveI : PcF S t x y := ⟨f1⟩
    dsimp only at h
    obtain ⟨_, _, e1, h⟩ := bnd_some h
    obtain ⟨l2, rfl, rfl⟩ := look_some e1
    split at h
    · rename_i hc
      obtain ⟨⟨u, v⟩, S1, e1, h⟩ := bnd_some h
      dsimp only at h
      obtain ⟨w, S2, e2, h⟩ := bnd_some h
      obtain ⟨rfl, rfl⟩ := ret_some h
      haveI : DoesF (fun n => joN n v y) (n + 1) S1 w S2 := ⟨e2⟩
      walk_at "w"
      refine w_ha e1 (by omega) fun p fp => ?_
      have fp2 : Fr g p := by have := fp.of_gu; exact this.of_gu
      repeat refine go ?_
      refine ⟨rfl, ?_⟩
      repeat refine go ?_
      refine ⟨by omega, ?_⟩
      repeat refine go ?_
      refine ⟨by simp [sizeLine], fun p3 fp3 => ?_⟩
      have fp4 : Fr g p3 := fp3.of_gu.of_gu.of_gu.of_gu
      exact fin (q p3 inferInstance)
    · rename_i hc
      obtain ⟨⟨u, v⟩, S1, e1, h⟩ := bnd_some h
      dsimp only at h
      obtain ⟨w, S2, e2, h⟩ := bnd_some h
      obtain ⟨rfl, rfl⟩ := ret_some h
      haveI : DoesF (fun n => joN n x u) (n + 1) S1 w S2 := ⟨e2⟩
      walk_at "w"
      have e5 : ((at_ : Int) - (sgT S x : Int)) = ((at_ - sgT S x : Nat) : Int) := by omega
      rw [e5]
      refine w_ha e1 (by omega) fun p fp => ?_
      have fp2 : Fr g p := by have := fp.of_gu; exact this.of_gu
      repeat refine go ?_
      refine ⟨rfl, ?_⟩
      repeat refine go ?_
      refine ⟨by omega, ?_⟩
      repeat refine go ?_
      refine ⟨by simp [sizeLine], fun p3 fp3 => ?_⟩
      have fp4 : Fr g p3 := fp3.of_gu.of_gu.of_gu.of_gu
      exact fin (q p3 inferInstance)
instance {t at_ n : Nat} {r : Nat × Nat} [d : DoesF (fun n => haN n t at_) n S r S'] : Step (Gam kl bsP defs k 55 [.ref a, .int t, .int at_] g Q E) (n + 11 ≤ k ∧ ∀ p, Fr (gu g a (.shf S')) p → Q (.ref p) (gu (gu g a (.shf S')) p (.tup [.int r.1, .int r.2]))) := ⟨fun h => w_ha d.h h.1 h.2⟩
theorem w_ct [d56 : DefAt defs 56 d_cut_at] {n t at_ : Nat} {r : Nat × Nat} (h : ctN n t at_ S = some (r, S')) (hk : n + 12 ≤ k)
    (q : ∀ p, Fr (gu g a (.shf S')) p → Q (.ref p) (gu (gu g a (.shf S')) p (.tup [.int r.1, .int r.2]))) : Gam kl bsP defs k 56 [.ref a, .int t, .int at_] g Q E := by
  obtain ⟨k, rfl⟩ : ∃ j, k = j + 1 := ⟨k - 1, by omega⟩
  refine gam_of d56.h rfl ?_
  show b_cut_at _ _ [some (.ref a), some (.int t), some (.int at_)] _
  unfold b_cut_at
  unfold ctN at h
  obtain ⟨_, _, e1, h⟩ := bnd_some h
  obtain ⟨l1, rfl, rfl⟩ := look_some e1
  obtain ⟨u, _, e1, h⟩ := bnd_some h
  obtain ⟨rfl, _, _, _⟩ := wsN_some e1
  haveI : Does (wsN t at_ (sgT S t)) S u S := ⟨e1⟩
  haveI : DoesF (fun n => haN n t at_) n S r S' := ⟨h⟩
  repeat refine go ?_
  refine ⟨l1, ?_⟩
  repeat refine go ?_
  refine ⟨by omega, ?_⟩
  repeat refine go ?_
  refine ⟨by omega, fun p fp => ?_⟩
  exact fin (q p fp)
theorem w_pi [d57 : DefAt defs 57 d_put_in] {n t at_ o r : Nat} (h : piN n t at_ o S = some (r, S')) (hk : n + 14 ≤ k) (q : Q (.int r) (gu g a (.shf S'))) : Gam kl bsP defs k 57 [.ref a, .int t, .int at_, .int o] g Q E := by
  obtain ⟨k, rfl⟩ : ∃ j, k = j + 1 := ⟨k - 1, by omega⟩
  refine gam_of d57.h rfl ?_
  show b_put_in _ _ [some (.ref a), some (.int t), some (.int at_), some (.int o), none, none, none] _
  unfold b_put_in
  unfold piN at h
  obtain ⟨_, _, e1, h⟩ := bnd_some h
  obtain ⟨l1, rfl, rfl⟩ := look_some e1
  obtain ⟨_, _, e1, h⟩ := bnd_some h
  obtain ⟨l2, rfl, rfl⟩ := look_some e1
  obtain ⟨u, _, e1, h⟩ := bnd_some h
  obtain ⟨rfl, _, _, _⟩ := wsN_some e1
  haveI : Does (wsN t at_ (sgT S t)) S u S := ⟨e1⟩
  split at h
  · cases h
  rename_i hc
  obtain ⟨⟨x, y⟩, S1, e1, h⟩ := bnd_some h
  dsimp only at h
  haveI : DoesF (fun n => haN n t at_) n S (x, y) S1 := ⟨e1⟩
  obtain ⟨w, S2, e2, h⟩ := bnd_some h
  haveI : DoesF (fun n => joN n x o) (n + 1) S1 w S2 := ⟨e2⟩
  haveI : DoesF (fun n => joN n w y) (n + 3) S2 r S' := ⟨h⟩
  repeat refine go ?_
  refine ⟨l1, ?_⟩
  repeat refine go ?_
  refine ⟨l2, ?_⟩
  repeat refine go ?_
  refine ⟨l1, ?_⟩
  repeat refine go ?_
  refine ⟨by omega, ?_⟩
  repeat refine go ?_
  refine ifDn (by omega) ?_
  repeat refine go ?_
  refine ⟨by omega, fun p fp => ?_⟩
  have fp2 : Fr g p := fp.of_gu
  repeat refine go ?_
  refine ⟨rfl, ?_⟩
  repeat refine go ?_
  refine ⟨by omega, ?_⟩
  repeat refine go ?_
  refine ⟨by omega, ?_⟩
  exact fin q
theorem w_tk [d58 : DefAt defs 58 d_taken_out] {n t b e r : Nat} (h : tkN n t b e S = some (r, S')) (hk : n + 12 ≤ k) (q : Q (.int r) (gu g a (.shf S'))) : Gam kl bsP defs k 58 [.ref a, .int t, .int b, .int e] g Q E := by
  obtain ⟨k, rfl⟩ : ∃ j, k = j + 1 := ⟨k - 1, by omega⟩
  refine gam_of d58.h rfl ?_
  show b_taken_out _ _ [some (.ref a), some (.int t), some (.int b), some (.int e), none] _
  unfold b_taken_out
  unfold tkN at h
  obtain ⟨u, _, e1, h⟩ := bnd_some h
  obtain ⟨rfl, _, _, _⟩ := wsN_some e1
  haveI : Does (wsN t b e) S u S := ⟨e1⟩
  obtain ⟨⟨x, y⟩, S1, e1, h⟩ := bnd_some h
  haveI : DoesF (fun n => haN n t b) n S (x, y) S1 := ⟨e1⟩
  obtain ⟨⟨x2, y2⟩, S2, e2, h⟩ := bnd_some h
  dsimp only at h
  haveI : DoesF (fun n => haN n t e) n S1 (x2, y2) S2 := ⟨e2⟩
  haveI : DoesF (fun n => joN n x y2) (n + 1) S2 r S' := ⟨h⟩
  repeat refine go ?_
  refine ⟨by omega, ?_⟩
  repeat refine go ?_
  refine ⟨by omega, fun p fp => ?_⟩
  have fp2 : Fr g p := fp.of_gu
  repeat refine go ?_
  refine ⟨.int x, rfl, ?_⟩
  repeat refine go ?_
  refine ⟨by omega, fun p3 fp3 => ?_⟩
  have fp4 : Fr g p3 := fp3.of_gu.of_gu.of_gu
  repeat refine go ?_
  refine ⟨.int y2, rfl, ?_⟩
  repeat refine go ?_
  refine ⟨by omega, ?_⟩
  exact fin q
theorem w_kp [d59 : DefAt defs 59 d_kept_part] {n t b e r : Nat} (h : kpN n t b e S = some (r, S')) (hk : n + 12 ≤ k) (q : Q (.int r) (gu g a (.shf S'))) : Gam kl bsP defs k 59 [.ref a, .int t, .int b, .int e] g Q E := by
  obtain ⟨k, rfl⟩ : ∃ j, k = j + 1 := ⟨k - 1, by omega⟩
  refine gam_of d59.h rfl ?_
  show b_kept_part _ _ [some (.ref a), some (.int t), some (.int b), some (.int e), none] _
  unfold b_kept_part
  unfold kpN at h
  obtain ⟨u, _, e1, h⟩ := bnd_some h
  obtain ⟨rfl, _, _, _⟩ := wsN_some e1
  haveI : Does (wsN t b e) S u S := ⟨e1⟩
  obtain ⟨⟨x, y⟩, S1, e1, h⟩ := bnd_some h
  haveI : DoesF (fun n => haN n t e) n S (x, y) S1 := ⟨e1⟩
  obtain ⟨⟨x2, y2⟩, S2, e2, h⟩ := bnd_some h
  obtain ⟨rfl, rfl⟩ := ret_some h
  haveI : DoesF (fun n => haN n x b) n S1 (x2, y2) S2 := ⟨e2⟩
  repeat refine go ?_
  refine ⟨by omega, ?_⟩
  repeat refine go ?_
  refine ⟨by omega, fun p fp => ?_⟩
  have fp2 : Fr g p := fp.of_gu
  repeat refine go ?_
  refine ⟨.int x, rfl, ?_⟩
  repeat refine go ?_
  refine ⟨by omega, fun p3 fp3 => ?_⟩
  have fp4 : Fr g p3 := fp3.of_gu.of_gu.of_gu
  repeat refine go ?_
  refine ⟨.int y2, rfl, ?_⟩
  exact fin q
end
end SW
end

section
set_option Elab.async false
set_option linter.all false
set_option maxRecDepth 100000
set_option maxHeartbeats 4000000
/-! Slices, ranges. -/
namespace SW
open PySem L2
theorem cutV_to {xs : List V} {n : Nat} : cutV xs none (some (n : Int)) = xs.take n := by
  unfold cutV
  rw [HT.sIx_none, HT.sIx_nat, List.drop_zero, Nat.sub_zero, List.take_eq_take_iff]
  omega
theorem cutV_from {xs : List V} {n : Nat} : cutV xs (some (n : Int)) none = xs.drop n := by
  unfold cutV
  rw [HT.sIx_none, HT.sIx_nat]
  by_cases h : n ≤ xs.length
  · rw [Nat.min_eq_left h, List.take_of_length_le]
    simp
  · rw [Nat.min_eq_right (by omega), List.drop_of_length_le (Nat.le_refl _), List.drop_of_length_le (by omega)]
    simp
theorem cutS_to {x : Str} {n : Nat} : cutS x none (some (n : Int)) = ⟨(x.cps.toList.take n).toArray⟩ := by
  unfold cutS
  rw [HT.sIx_none, HT.sIx_nat, List.drop_zero, Nat.sub_zero]
  have : x.length = x.cps.toList.length := by simp [Str.length]
  rw [this]
  congr 2
  rw [List.take_eq_take_iff]
  omega
theorem cutS_from {x : Str} {n : Nat} : cutS x (some (n : Int)) none = ⟨(x.cps.toList.drop n).toArray⟩ := by
  unfold cutS
  rw [HT.sIx_none, HT.sIx_nat]
  have e : x.length = x.cps.toList.length := by simp [Str.length]
  rw [e]
  congr 2
  by_cases h : n ≤ x.cps.toList.length
  · rw [Nat.min_eq_left h, List.take_of_length_le]
    simp
  · rw [Nat.min_eq_right (by omega), List.drop_of_length_le (Nat.le_refl _), List.drop_of_length_le (by omega)]
    simp
theorem cutS_ab {x : Str} {m n : Nat} (h : m ≤ x.cps.size) : cutS x (some (m : Int)) (some (n : Int)) = ⟨((x.cps.toList.drop m).take (n - m)).toArray⟩ := by
  unfold cutS
  rw [HT.sIx_nat, HT.sIx_nat]
  have e : x.length = x.cps.size := rfl
  rw [e, Nat.min_eq_left h]
  have : (x.cps.toList.drop m).take (min n x.cps.size - m) = (x.cps.toList.drop m).take (n - m) := by
    rw [List.take_eq_take_iff, List.length_drop, Array.length_toList]
    omega
  rw [this]
theorem rng8 {n : Nat} (h : n < 1000000) : RgC 0 n 8 ((n + 7) / 8) := by
  have e : Builtin.Range.rangeSize 0 n 8 = (((n + 7) / 8 : Nat) : Int) := by
    rw [PyProof.Rows.rangeSize_pos (by omega) (by omega)]
    omega
  refine ⟨by omega, by decide, ?_, e⟩
  unfold Builtin.Range.small
  rw [e]
  have fl : ∀ i : Int, -1 ≤ i → i < 2000000 → Builtin.Range.rangeFitsLong i = true := fun i h1 h2 => by
    unfold Builtin.Range.rangeFitsLong
    rw [Bool.and_eq_true, decide_eq_true_eq, decide_eq_true_eq]
    constructor <;> omega
  rw [fl 0 (by omega) (by omega), fl n (by omega) (by omega), fl 8 (by omega) (by omega), fl _ (by omega) (by omega), if_pos (by decide), fl _ (by omega) (by omega)]
  simp
end SW
end

section
set_option Elab.async false
set_option linter.all false
set_option maxRecDepth 100000
set_option maxHeartbeats 4000000
/-! Walks: building, repeating. -/
namespace SW
open PySem L2
local macro_rules | `(tactic| walk_at "w") => `(tactic| repeat first | refine go ?_ | refine ifT ?_ | refine ifF ?_ | refine And.intro (by omega) ?_ | refine ifD (by omega) ?_ | refine ifDn (by omega) ?_ | refine ifN (by omega) ?_ | refine ifNn (by omega) ?_ | refine And.intro (by simp [sizeLine, atOf] <;> omega) ?_ | (intro _ _) | fail)
set_option synthInstance.maxHeartbeats 200000
set_option synthInstance.maxSize 100000
section
variable {kl : Addr → List V → Prop} {defs : Nat → Option FDef} {k : Nat} {g : G} {Q : VG} {E : XG} {a : Addr} {S S' : Sh} [jd : JoD defs] [sa : At g a (.shf S)]
abbrev nV (n : Nat) : V := .int n
theorem w_bf : ∀ {n k : Nat} {g : G} {Q : VG} {E : XG} {S S' : Sh} [sa : At g a (.shf S)] {l : Addr} {xs : List Nat} [la : At g l (.lst (xs.map nV))] {r : Nat} (h : bfN n xs S = some (r, S')) (hk : n + 1 ≤ k) (q : Q (.int r) (gu g a (.shf S'))), Gam kl bsP defs k 50 [.ref a, .ref l] g Q E
  | 0, _, _, _, _, _, _, _, _, _, _, _, h, _, _ => nomatch h
  | n + 1, k, g, Q, E, S, S', sa, l, xs, la, r, h, hk, q => by
    obtain ⟨k, rfl⟩ : ∃ j, k = j + 1 := ⟨k - 1, by omega⟩
    haveI n1 : NeA a l := NeA.of_at sa la (fun z => nomatch z)
    haveI n2 : NeA l a := n1.symm
    refine gam_of jd.h50 rfl ?_
    show b_built_of _ _ [some (.ref a), some (.ref l), none] _
    unfold b_built_of
    unfold bfN at h
    split at h
    · cases h
    rename_i h0
    split at h
    · rename_i h1
      obtain ⟨rfl, rfl⟩ := ret_some h
      match xs, h1 with
      | [y], _ =>
        repeat refine go ?_
        refine ifD rfl ?_
        repeat refine go ?_
        exact ⟨nV y, rfl, fin q⟩
    · rename_i h1
      obtain ⟨u, S1, e1, h⟩ := bnd_some h
      obtain ⟨v, S2, e2, h⟩ := bnd_some h
      haveI : Does (forkN u v) S2 r S' := ⟨h⟩
      repeat refine go ?_
      refine ifDn (by rw [List.length_map]; omega) ?_
      repeat refine go ?_
      refine ⟨⟨by omega, by decide⟩, ?_⟩
      have e3 : ((xs.map nV).length : Int) / 2 = ((xs.length / 2 : Nat) : Int) := by rw [List.length_map]; omega
      rw [e3]
      repeat refine go ?_
      rw [cutV_to, ← List.map_take]
      intro p1 f1
      replace f1 : Fr g p1 := ⟨f1⟩
      repeat refine go ?_
      refine w_bf (xs := xs.take (xs.length / 2)) e1 (by omega) ?_
      repeat refine go ?_
      rw [cutV_from, ← List.map_drop]
      intro p2 f2
      replace f2 : Fr _ p2 := ⟨f2⟩
      repeat refine go ?_
      refine w_bf (xs := xs.drop (xs.length / 2)) e2 (by omega) ?_
      repeat refine go ?_
      exact fin q
theorem lvN_len {x : Str} : ∀ {n : Nat} {S S' : Sh} {l : List Nat}, lvN x n S = some (l, S') → l.length = n
  | 0, S, S', l, h => by obtain ⟨rfl, _⟩ := ret_some h; rfl
  | n + 1, S, S', l, h => by
    obtain ⟨m, S1, e1, h⟩ := bnd_some h
    obtain ⟨v, S2, e2, h⟩ := bnd_some h
    obtain ⟨rfl, _⟩ := ret_some h
    rw [List.length_append, lvN_len e1]; rfl
theorem w_bu {n r : Nat} {x : Str} (h : buN n x S = some (r, S')) (hk : n + 2 ≤ k) (q : Q (.int r) (gu g a (.shf S'))) : Gam kl bsP defs k 51 [.ref a, .str x] g Q E := by
  obtain ⟨k, rfl⟩ : ∃ j, k = j + 1 := ⟨k - 1, by omega⟩
  obtain ⟨k, rfl⟩ : ∃ j, k = j + 1 := ⟨k - 1, by omega⟩
  refine gam_of jd.h51 rfl ?_
  show b_built _ _ [some (.ref a), some (.str x), none, none] _
  unfold b_built
  unfold buN at h
  split at h
  · cases h
  rename_i h0
  have hp : plainB x = true := by
    cases e : plainB x with
    | true => rfl
    | false => exact absurd (.inl e) h0
  have hs : sizeLine = 16777216 := rfl
  have hxl : x.length = x.cps.size := rfl
  have hx : x.cps.size ≤ 10000 := by omega
  repeat refine go ?_
  refine z_is_plain' jd.h2 (by omega) ?_
  rw [hp]
  repeat refine go ?_
  refine ⟨by omega, ?_⟩
  repeat refine go ?_
  refine ifDn (by omega) ?_
  repeat refine go ?_
  split at h
  · rename_i h1
    obtain ⟨rfl, rfl⟩ := ret_some h
    refine ifD (str_nil.mpr h1) ?_
    repeat refine go ?_
    exact fin q
  rename_i h1
  refine ifDn (fun z => h1 (str_nil.mp z)) ?_
  obtain ⟨l, S1, e1, h⟩ := bnd_some h
  repeat refine go ?_
  refine ⟨by simp, fun p fp => ?_⟩
  repeat refine go ?_
  refine ⟨by omega, ?_⟩
  repeat refine go ?_
  refine ⟨0, x.length, 8, (x.cps.size + 7) / 8, rfl, rfl, rfl, rng8 (by omega), ?_⟩
  haveI n1 : NeA a p := NeA.of_fr sa fp
  haveI n2 : NeA p a := n1.symm
  have pre : ∀ i, i ≤ (x.cps.size + 7) / 8 → ∃ li Si, lvN x i S = some (li, Si) := by
    intro i hi
    obtain ⟨d, hd⟩ : ∃ d, (x.cps.size + 7) / 8 = i + d := ⟨(x.cps.size + 7) / 8 - i, by omega⟩
    rw [hd] at e1
    clear hd hi h h0 h1 hx
    induction d generalizing l S1 with
    | zero => exact ⟨_, _, e1⟩
    | succ d ih =>
      obtain ⟨m, S2, e3, _⟩ := bnd_some e1
      exact ih m S2 e3
  refine ⟨fun i s g2 => i ≤ (x.cps.size + 7) / 8 ∧ ∃ li Si v, lvN x i S = some (li, Si) ∧ s = [some (.ref a), some (.str x), some (.ref p), v] ∧ g2 = gu (gu g a (.shf Si)) p (.lst (li.map nV)), ⟨by omega, [], S, none, rfl, rfl, by rw [gu_at sa.h]; rfl⟩, ?_⟩
  rintro i s g2 ⟨hi, li, Si, v, e2, rfl, rfl⟩
  haveI fp2 : Fr (gu g a (.shf Si)) p := inferInstance
  have hll := lvN_len e2
  refine ⟨trivial, ?_⟩
  show if i < (x.cps.size + 7) / 8 then _ else _
  by_cases hlt : i < (x.cps.size + 7) / 8
  · rw [if_pos hlt]
    refine go ?_
    have ei : (0 + (i : Int) * 8) = ((8 * i : Nat) : Int) := by omega
    rw [ei]
    obtain ⟨l3, S3, e3⟩ := pre (i + 1) (by omega)
    have e4 := e3
    unfold lvN at e4
    obtain ⟨m2, S4, e5, e4⟩ := bnd_some e4
    rw [e2] at e5
    cases e5
    obtain ⟨m, S5, e6, e4⟩ := bnd_some e4
    obtain ⟨rfl, rfl⟩ := ret_some e4
    repeat refine go ?_
    refine ⟨by omega, ?_⟩
    have ej : (((8 * i : Nat) : Int) + 8) = ((8 * i + 8 : Nat) : Int) := by omega
    rw [ej]
    haveI : Does (leafN (cutS x (some ((8 * i : Nat) : Int)) (some ((8 * i + 8 : Nat) : Int)))) Si m S5 := ⟨e6⟩
    repeat refine go ?_
    refine ⟨by rw [List.length_map]; omega, ?_⟩
    repeat refine go ?_
    refine ⟨_, Sub.refl _, by omega, li ++ [m], S5, _, e3, rfl, ?_⟩
    rw [List.map_append]
    funext b
    unfold SW.gu
    have m1 := n1.h
    by_cases b1 : b = p
    · subst b1; simp
    · by_cases b2 : b = a
      · subst b2; simp [m1]
      · simp [b1, b2]
  · rw [if_neg hlt]
    have : i = (x.cps.size + 7) / 8 := by omega
    subst this
    rw [e1] at e2
    cases e2
    dsimp only
    repeat refine go ?_
    refine w_bf h (by omega) ?_
    repeat refine go ?_
    haveI : Ad (gu g a (.shf S1)) p (.lst (l.map nV)) := ⟨.inl fp2.h⟩
    exact fin q
theorem log64 {n : Nat} (h : n < 2 ^ 64) : n.log2 < 64 := by
  by_cases h0 : n = 0
  · subst h0; decide
  · exact (Nat.log2_lt h0).mpr h
theorem w_re [d52 : DefAt defs 52 d_repeated] {n t m r : Nat} (h : reN n t m S = some (r, S')) (hm : m < 2 ^ 64) (hs : sgT S t < 2 ^ 64) (hk : n + 10 ≤ k) (q : Q (.int r) (gu g a (.shf S'))) : Gam kl bsP defs k 52 [.ref a, .int t, .int m] g Q E := by
  obtain ⟨k, rfl⟩ : ∃ j, k = j + 1 := ⟨k - 1, by omega⟩
  refine gam_of d52.h rfl ?_
  show b_repeated _ _ [some (.ref a), some (.int t), some (.int m), none, none] _
  unfold b_repeated
  unfold reN at h
  obtain ⟨_, _, e1, h⟩ := bnd_some h
  obtain ⟨l1, rfl, rfl⟩ := look_some e1
  split at h
  · cases h
  rename_i hc
  repeat refine go ?_
  refine ifDn (by omega) ?_
  repeat refine go ?_
  refine ⟨l1, ?_⟩
  repeat refine go ?_
  refine ⟨?_, ?_⟩
  · unfold CMulW
    have h1 := log64 hm
    have h2 := log64 hs
    simp only [Int.natAbs_natCast]
    omega
  repeat refine go ?_
  refine ifDn (by rw [← Int.natCast_mul]; omega) ?_
  repeat refine go ?_
  split at h
  · rename_i ht
    obtain ⟨rfl, rfl⟩ := ret_some h
    refine ⟨fun _ s g2 => s = [some (.ref a), some (.int t), some (.int m), some (.int 0), some (.int t)] ∧ g2 = g, ⟨0, rfl, rfl⟩, ?_⟩
    rintro _ s g2 ⟨rfl, rfl⟩
    repeat refine go ?_
    by_cases h0 : m = 0
    · refine ifDn (by omega) ?_
      repeat refine go ?_
      exact fin q
    · refine ifD (by omega) ?_
      repeat refine go ?_
      refine ifNn (by omega) ?_
      repeat refine go ?_
      exact fin q
  · rename_i ht
    refine ⟨fun j s g2 => ∃ f fo tw S1, j = f ∧ (∃ mm : Nat, s = [some (.ref a), some (.int t), some (.int mm), some (.int (fo : Nat)), some (.int (tw : Nat))] ∧ g2 = gu g a (.shf S1) ∧ rlN n f fo tw mm S1 = some (r, S')), ⟨m + 1, m + 1, 0, t, S, rfl, m, rfl, (gu_at sa.h).symm, h⟩, ?_⟩
    rintro j s g2 ⟨f, fo, tw, S1, rfl, mm, rfl, rfl, h⟩
    cases j with
    | zero => cases h
    | succ j =>
      unfold rlN at h
      repeat refine go ?_
      split at h
      · rename_i h0
        obtain ⟨rfl, rfl⟩ := ret_some h
        refine ifDn (by omega) ?_
        repeat refine go ?_
        exact fin q
      · rename_i h0
        refine ifD (by omega) ?_
        repeat refine go ?_
        refine ifN (by omega) ?_
        obtain ⟨fo2, S2, e1, h⟩ := bnd_some h
        obtain ⟨tw2, S3, e2, h⟩ := bnd_some h
        repeat refine go ?_
        refine ⟨by decide, ?_⟩
        repeat refine go ?_
        have e3 : ((mm : Int) / 2) = ((mm / 2 : Nat) : Int) := by omega
        have fin2 : ∀ (σ : L2.St) (g2 : G), σ = [some (.ref a), some (.int t), some (.int ((mm / 2 : Nat) : Int)), some (.int (fo2 : Nat)), some (.int (tw2 : Nat))] → g2 = gu g a (.shf S3) → ∃ m' g'', m' < j + 1 ∧ Sub g'' g2 ∧ ∃ f fo tw S1, m' = f ∧ (∃ mm : Nat, σ = [some (.ref a), some (.int t), some (.int mm), some (.int (fo : Nat)), some (.int (tw : Nat))] ∧ g'' = gu g a (.shf S1) ∧ rlN n f fo tw mm S1 = some (r, S')) :=
          fun σ g2 h1 h2 => ⟨j, g2, by omega, Sub.refl _, j, fo2, tw2, S3, rfl, mm / 2, h1, h2, h⟩
        have part2 : ∀ (g2 : G), g2 = gu g a (.shf S2) → ∀ (rt : VG) (bk : L2.St → G → Prop) er, sSeq (sAsg (eBin .FloorDiv (eV 2) (eC (.int 2))) (gN 2)) (sSeq (sIf (tBl (eCmp .Gt (eV 2) (eC (.int 0)))) (sSeq (sAsg (eFn 49 (lCons (eV 0) (lCons (eV 4) (lCons (eV 4) lNil)))) (gN 4)) sNext) sNext) sNext) ⟨kl, Gam kl bsP defs k, er⟩
            ⟨fun σ' g' => ∃ m' g'', m' < j + 1 ∧ Sub g'' g' ∧ ∃ f fo tw S1, m' = f ∧ (∃ mm : Nat, σ' = [some (.ref a), some (.int t), some (.int mm), some (.int (fo : Nat)), some (.int (tw : Nat))] ∧ g'' = gu g a (.shf S1) ∧ rlN n f fo tw mm S1 = some (r, S')), rt, bk,
             fun σ' g' => ∃ m' g'', m' < j + 1 ∧ Sub g'' g' ∧ ∃ f fo tw S1, m' = f ∧ (∃ mm : Nat, σ' = [some (.ref a), some (.int t), some (.int mm), some (.int (fo : Nat)), some (.int (tw : Nat))] ∧ g'' = gu g a (.shf S1) ∧ rlN n f fo tw mm S1 = some (r, S'))⟩ [some (.ref a), some (.int t), some (.int mm), some (.int (fo2 : Nat)), some (.int (tw : Nat))] g2 := by
          rintro g2 rfl rt bk er
          repeat refine go ?_
          refine ⟨⟨by omega, by decide⟩, ?_⟩
          rw [e3]
          repeat refine go ?_
          split at e2
          · rename_i h1
            haveI : DoesF (fun n => joN n tw tw) n S2 tw2 S3 := ⟨e2⟩
            refine ifD (by omega) ?_
            repeat refine go ?_
            refine ⟨by omega, ?_⟩
            exact fin2 _ _ rfl gu_gu
          · rename_i h1
            obtain ⟨rfl, rfl⟩ := ret_some e2
            refine ifDn (by omega) ?_
            repeat refine go ?_
            exact fin2 _ _ rfl rfl
        split at e1
        · rename_i h1
          haveI : DoesF (fun n => joN n fo tw) n S1 fo2 S2 := ⟨e1⟩
          refine ifD (by omega) ?_
          repeat refine go ?_
          refine ⟨by omega, ?_⟩
          exact part2 _ gu_gu _ _ _
        · rename_i h1
          obtain ⟨rfl, rfl⟩ := ret_some e1
          refine ifDn (by omega) ?_
          exact part2 _ rfl _ _ _
end
end SW
end

section
set_option Elab.async false
set_option linter.all false
set_option maxRecDepth 100000
set_option maxHeartbeats 4000000
/-! What texts read; level, close shelves. -/
namespace SW
open PySem L2
def getT (acc : List (List Nat)) : Nat → List Nat
  | 0 => []
  | t + 1 => acc.getD t []
def txR (acc : List (List Nat)) (pc : Sum Str (Nat × Nat)) : List Nat := match pc with
  | .inl x => x.cps.toList
  | .inr (a, b) => getT acc a ++ getT acc b
def rdA (S : Sh) : List (List Nat) := S.foldl (fun acc r => acc ++ [txR acc r.pc]) []
/-- the signs of a text -/
def rd (S : Sh) (t : Nat) : List Nat := getT (rdA S) t
theorem rdA_snoc {S : Sh} {r : PRec} : rdA (S ++ [r]) = rdA S ++ [txR (rdA S) r.pc] := by
  unfold rdA; rw [List.foldl_append]; rfl
theorem rdA_pre : ∀ {R S : Sh}, rdA S <+: rdA (S ++ R)
  | [], S => by rw [List.append_nil]; exact List.prefix_rfl
  | r :: R, S => by
    have h := rdA_pre (R := R) (S := S ++ [r])
    rw [List.append_assoc, List.singleton_append] at h
    refine List.IsPrefix.trans ?_ h
    rw [rdA_snoc]
    exact List.prefix_append _ _
theorem foldl_len : ∀ {S : Sh} {acc : List (List Nat)}, (S.foldl (fun acc r => acc ++ [txR acc r.pc]) acc).length = acc.length + S.length
  | [], acc => rfl
  | r :: S, acc => by rw [List.foldl_cons, foldl_len]; simp; omega
theorem rdA_len {S : Sh} : (rdA S).length = S.length := by unfold rdA; rw [foldl_len]; simp
theorem rd_pre {S S' : Sh} {t : Nat} (p : S <+: S') (h : t ≤ S.length) : rd S' t = rd S t := by
  obtain ⟨R, rfl⟩ := p
  obtain ⟨q, hq⟩ := rdA_pre (S := S) (R := R)
  cases t with
  | zero => rfl
  | succ n =>
    have hn : n < (rdA S).length := by rw [rdA_len]; omega
    show (rdA (S ++ R)).getD n [] = (rdA S).getD n []
    rw [← hq, List.getD_eq_getElem?_getD, List.getD_eq_getElem?_getD, List.getElem?_append_left hn]
theorem rd_zero {S : Sh} : rd S 0 = [] := rfl
theorem rd_new {S : Sh} {r : PRec} : rd (S ++ [r]) (S.length + 1) = txR (rdA S) r.pc := by
  show (rdA (S ++ [r])).getD S.length [] = _
  rw [rdA_snoc, List.getD_eq_getElem?_getD, ← rdA_len (S := S)]
  simp
/-- what may lie on a shelf -/
structure LfOk (x : Str) : Prop where
  pl : plainB x = true
  h1 : 1 ≤ x.cps.size
  h8 : x.cps.size ≤ 8
inductive WF : Sh → Prop
  | nil : WF []
  | leaf {S : Sh} {x : Str} : WF S → LfOk x → WF (S ++ [lfR S x])
  | fork {S : Sh} {a b : Nat} : WF S → FkOk S a b → WF (S ++ [fkR S a b])
/-- a leaf -/
structure NdL (S : Sh) (t : Nat) (x : Str) : Prop where
  ok : LfOk x
  pc : pcT S t = some (.inl x)
  sg : sgT S t = x.cps.size
  en : enT S t = nlN x
  lv : lvT S t = 1
  ht : hgT S t = 0
  fi : fiT S t = t
  la : laT S t = t
  rd : rd S t = x.cps.toList
/-- a fork -/
structure NdF (S : Sh) (t a b : Nat) : Prop where
  pc : pcT S t = some (.inr (a, b))
  a0 : 0 < a
  a1 : a < t
  b0 : 0 < b
  b1 : b < t
  sg : sgT S t = sgT S a + sgT S b
  en : enT S t = enT S a + enT S b
  lv : lvT S t = lvT S a + lvT S b
  ht : hgT S t = 1 + max (hgT S a) (hgT S b)
  fi : fiT S t = fiT S a
  la : laT S t = laT S b
  rd : rd S t = rd S a ++ rd S b
  cl : 8 < sgT S (laT S a) + sgT S (fiT S b)
  h1 : hgT S a ≤ hgT S b + 1
  h2 : hgT S b ≤ hgT S a + 1
  most : sgT S t ≤ 1000000000000000000
/-- of each text: its first and last leaves -/
structure Ends (S : Sh) (t : Nat) : Prop where
  f0 : 0 < fiT S t
  f1 : fiT S t ≤ t
  l0 : 0 < laT S t
  l1 : laT S t ≤ t
  fx : ∃ x, NdL S (fiT S t) x
  lx : ∃ x, NdL S (laT S t) x
def Nd (S : Sh) (t : Nat) : Prop := (∃ x, NdL S t x) ∨ ∃ a b, NdF S t a b
section
variable {S S' : Sh} {t a b : Nat} {x : Str}
theorem sg_pre (p : S <+: S') (h : t ≤ S.length) : sgT S' t = sgT S t := rdT_pre p h
theorem en_pre (p : S <+: S') (h : t ≤ S.length) : enT S' t = enT S t := rdT_pre p h
theorem lv_pre (p : S <+: S') (h : t ≤ S.length) : lvT S' t = lvT S t := rdT_pre p h
theorem hg_pre (p : S <+: S') (h : t ≤ S.length) : hgT S' t = hgT S t := rdT_pre p h
theorem fi_pre (p : S <+: S') (h : t ≤ S.length) : fiT S' t = fiT S t := rdT_pre p h
theorem la_pre (p : S <+: S') (h : t ≤ S.length) : laT S' t = laT S t := rdT_pre p h
theorem NdL.le (n : NdL S t x) : 0 < t ∧ t ≤ S.length := pcT_le n.pc
theorem NdF.le (n : NdF S t a b) : 0 < t ∧ t ≤ S.length := pcT_le n.pc
theorem NdL.pre (p : S <+: S') (n : NdL S t x) : NdL S' t x := by
  have h := n.le.2
  refine ⟨n.ok, pcT_pre' p n.pc, ?_, ?_, ?_, ?_, ?_, ?_, ?_⟩
  · rw [sg_pre p h]; exact n.sg
  · rw [en_pre p h]; exact n.en
  · rw [lv_pre p h]; exact n.lv
  · rw [hg_pre p h]; exact n.ht
  · rw [fi_pre p h]; exact n.fi
  · rw [la_pre p h]; exact n.la
  · rw [rd_pre p h]; exact n.rd
theorem Ends.pre (p : S <+: S') (h : t ≤ S.length) (n : Ends S t) : Ends S' t := by
  refine ⟨?_, ?_, ?_, ?_, ?_, ?_⟩
  · rw [fi_pre p h]; exact n.f0
  · rw [fi_pre p h]; exact n.f1
  · rw [la_pre p h]; exact n.l0
  · rw [la_pre p h]; exact n.l1
  · rw [fi_pre p h]; obtain ⟨x, q⟩ := n.fx; exact ⟨x, q.pre p⟩
  · rw [la_pre p h]; obtain ⟨x, q⟩ := n.lx; exact ⟨x, q.pre p⟩
theorem NdF.pre (p : S <+: S') (n : NdF S t a b) (ea : Ends S a) (eb : Ends S b) : NdF S' t a b := by
  have h := n.le.2
  have ha : a ≤ S.length := by have := n.a1; omega
  have hb : b ≤ S.length := by have := n.b1; omega
  have hla : laT S a ≤ S.length := by have := ea.l1; omega
  have hfb : fiT S b ≤ S.length := by have := eb.f1; omega
  refine ⟨pcT_pre' p n.pc, n.a0, n.a1, n.b0, n.b1, ?_, ?_, ?_, ?_, ?_, ?_, ?_, ?_, ?_, ?_, ?_⟩
  · rw [sg_pre p h, sg_pre p ha, sg_pre p hb]; exact n.sg
  · rw [en_pre p h, en_pre p ha, en_pre p hb]; exact n.en
  · rw [lv_pre p h, lv_pre p ha, lv_pre p hb]; exact n.lv
  · rw [hg_pre p h, hg_pre p ha, hg_pre p hb]; exact n.ht
  · rw [fi_pre p h, fi_pre p ha]; exact n.fi
  · rw [la_pre p h, la_pre p hb]; exact n.la
  · rw [rd_pre p h, rd_pre p ha, rd_pre p hb]; exact n.rd
  · rw [la_pre p ha, fi_pre p hb, sg_pre p hla, sg_pre p hfb]; exact n.cl
  · rw [hg_pre p ha, hg_pre p hb]; exact n.h1
  · rw [hg_pre p ha, hg_pre p hb]; exact n.h2
  · rw [sg_pre p h]; exact n.most
theorem lf_new (ok : LfOk x) : NdL (S ++ [lfR S x]) (S.length + 1) x :=
  ⟨ok, pcT_new, rdT_new, rdT_new, rdT_new, rdT_new, rdT_new, rdT_new, rd_new⟩
theorem fk_new (ok : FkOk S a b) (ea : Ends S a) (eb : Ends S b) : NdF (S ++ [fkR S a b]) (S.length + 1) a b := by
  have p : S <+: S ++ [fkR S a b] := List.prefix_append _ _
  obtain ⟨b1, b2, b3, b4, b5, b6, b7, b8, b9, b10⟩ := ok
  refine ⟨pcT_new, b1, by omega, b3, by omega, ?_, ?_, ?_, ?_, ?_, ?_, ?_, ?_, ?_, ?_, ?_⟩
  · rw [sg_pre p b2, sg_pre p b4]; exact rdT_new
  · rw [en_pre p b2, en_pre p b4]; exact rdT_new
  · rw [lv_pre p b2, lv_pre p b4]; exact rdT_new
  · rw [hg_pre p b2, hg_pre p b4]; exact rdT_new
  · rw [fi_pre p b2]; exact rdT_new
  · rw [la_pre p b4]; exact rdT_new
  · rw [rd_pre p b2, rd_pre p b4]; exact rd_new
  · rw [la_pre p b2, fi_pre p b4, sg_pre p b5, sg_pre p b6]; exact b7
  · rw [hg_pre p b2, hg_pre p b4]; exact b8
  · rw [hg_pre p b2, hg_pre p b4]; exact b9
  · rw [show sgT (S ++ [fkR S a b]) (S.length + 1) = _ from rdT_new]; exact b10
theorem NdL.ends (n : NdL S t x) : Ends S t :=
  ⟨by rw [n.fi]; exact n.le.1, by rw [n.fi]; exact Nat.le_refl _, by rw [n.la]; exact n.le.1, by rw [n.la]; exact Nat.le_refl _, ⟨x, by rw [n.fi]; exact n⟩, ⟨x, by rw [n.la]; exact n⟩⟩
theorem NdF.ends (n : NdF S t a b) (ea : Ends S a) (eb : Ends S b) : Ends S t := by
  have h1 := n.a1
  have h2 := n.b1
  have h3 := ea.f1
  have h4 := eb.l1
  exact ⟨by rw [n.fi]; exact ea.f0, by rw [n.fi]; omega, by rw [n.la]; exact eb.l0, by rw [n.la]; omega, by rw [n.fi]; exact ea.fx, by rw [n.la]; exact eb.lx⟩
/-- all pieces are good -/
theorem WF.all (w : WF S) : ∀ t, 0 < t → t ≤ S.length → Nd S t ∧ Ends S t := by
  induction w with
  | nil => intro t h0 h1; simp at h1; omega
  | @leaf S x w ok ih =>
    intro t h0 h1
    have p : S <+: S ++ [lfR S x] := List.prefix_append _ _
    rw [List.length_append, List.length_singleton] at h1
    by_cases h : t ≤ S.length
    · obtain ⟨h2, h3⟩ := ih t h0 h
      refine ⟨?_, h3.pre p h⟩
      rcases h2 with ⟨y, n⟩ | ⟨a, b, n⟩
      · exact .inl ⟨y, n.pre p⟩
      · have := n.a1; have := n.b1
        exact .inr ⟨a, b, n.pre p (ih a n.a0 (by omega)).2 (ih b n.b0 (by omega)).2⟩
    · have : t = S.length + 1 := by omega
      subst this
      exact ⟨.inl ⟨x, lf_new ok⟩, (lf_new ok).ends⟩
  | @fork S a b w ok ih =>
    intro t h0 h1
    have p : S <+: S ++ [fkR S a b] := List.prefix_append _ _
    rw [List.length_append, List.length_singleton] at h1
    by_cases h : t ≤ S.length
    · obtain ⟨h2, h3⟩ := ih t h0 h
      refine ⟨?_, h3.pre p h⟩
      rcases h2 with ⟨y, n⟩ | ⟨a, b, n⟩
      · exact .inl ⟨y, n.pre p⟩
      · have := n.a1; have := n.b1
        exact .inr ⟨a, b, n.pre p (ih a n.a0 (by omega)).2 (ih b n.b0 (by omega)).2⟩
    · have : t = S.length + 1 := by omega
      subst this
      have ea := (ih a ok.a0 ok.a1).2
      have eb := (ih b ok.b0 ok.b1).2
      have n := fk_new ok ea eb
      exact ⟨.inr ⟨a, b, n⟩, n.ends (ea.pre p ok.a1) (eb.pre p ok.b1)⟩
theorem WF.nd (w : WF S) (h0 : 0 < t) (h1 : t ≤ S.length) : Nd S t := (w.all t h0 h1).1
theorem WF.ends (w : WF S) (h0 : 0 < t) (h1 : t ≤ S.length) : Ends S t := (w.all t h0 h1).2
theorem WF.len (w : WF S) : ∀ t, t ≤ S.length → (rd S t).length = sgT S t := by
  intro t
  induction t using Nat.strongRecOn with
  | ind t ih =>
    intro h1
    by_cases h0 : t = 0
    · subst h0; rfl
    · rcases w.nd (by omega) h1 with ⟨x, n⟩ | ⟨a, b, n⟩
      · rw [n.rd, n.sg]; simp
      · have := n.a1; have := n.b1
        rw [n.rd, n.sg, List.length_append, ih a n.a1 (by omega), ih b n.b1 (by omega)]
theorem lkF_pc : ∀ {S : Sh} {n m : Nat} {pc : Sum Str (Nat × Nat)}, lkF n S pc = some m → n < m ∧ m ≤ n + S.length ∧ (S[m - n - 1]?).map (·.pc) = some pc
  | [], n, m, pc, h => by cases h
  | r :: S, n, m, pc, h => by
    unfold lkF at h
    split at h
    · rename_i e
      cases h
      refine ⟨by omega, by simp, ?_⟩
      have : n + 1 - n - 1 = 0 := by omega
      rw [this]; simp [e]
    · obtain ⟨h1, h2, h3⟩ := lkF_pc h
      refine ⟨by omega, by simp; omega, ?_⟩
      have : m - n - 1 = (m - (n + 1) - 1) + 1 := by omega
      rw [this]; simpa using h3
theorem lkP_pc {m : Nat} {pc : Sum Str (Nat × Nat)} (h : lkP S pc = some m) : pcT S m = some pc := by
  obtain ⟨h1, h2, h3⟩ := lkF_pc h
  cases m with
  | zero => omega
  | succ n => simpa [pcT] using h3
theorem NdL.of (w : WF S) (h : pcT S t = some (.inl x)) : NdL S t x := by
  obtain ⟨h0, h1⟩ := pcT_le h
  rcases w.nd h0 h1 with ⟨y, n⟩ | ⟨a, b, n⟩
  · have := n.pc; rw [h] at this; cases this; exact n
  · have := n.pc; rw [h] at this; cases this
theorem NdF.of (w : WF S) (h : pcT S t = some (.inr (a, b))) : NdF S t a b := by
  obtain ⟨h0, h1⟩ := pcT_le h
  rcases w.nd h0 h1 with ⟨y, n⟩ | ⟨a, b, n⟩
  · have := n.pc; rw [h] at this; cases this
  · have := n.pc; rw [h] at this; cases this; exact n
/-- a shelf that has grown -/
structure Up (S S' : Sh) (c : Nat) : Prop where
  wf : WF S'
  pre : S <+: S'
  len : S'.length ≤ S.length + c
theorem Up.refl (w : WF S) : Up S S 0 := ⟨w, List.prefix_rfl, by omega⟩
theorem Up.trans {S1 S2 S3 : Sh} {c d : Nat} (u : Up S1 S2 c) (v : Up S2 S3 d) : Up S1 S3 (c + d) := ⟨v.wf, u.pre.trans v.pre, by have := u.len; have := v.len; omega⟩
theorem Up.mono {c d : Nat} (u : Up S S' c) (h : c ≤ d) : Up S S' d := ⟨u.wf, u.pre, by have := u.len; omega⟩
theorem Up.ge {c : Nat} (u : Up S S' c) : S.length ≤ S'.length := u.pre.length_le
theorem s_leaf (w : WF S) (ok : LfOk x) (room : S.length + 2 < sizeLine) : ∃ n S', leafN x S = some (n, S') ∧ Up S S' 1 ∧ NdL S' n x := by
  unfold leafN
  rw [if_pos ⟨ok.pl, ok.h1, ok.h8⟩]
  unfold putP
  cases h : lkP S (lfR S x).pc with
  | some n => exact ⟨n, S, rfl, (Up.refl w).mono (by omega), NdL.of w (lkP_pc h)⟩
  | none =>
    dsimp only
    rw [if_pos room]
    exact ⟨_, _, rfl, ⟨.leaf w ok, List.prefix_append _ _, by simp⟩, lf_new ok⟩
theorem s_fork (w : WF S) (ok : FkOk S a b) (room : S.length + 2 < sizeLine) : ∃ n S', forkN a b S = some (n, S') ∧ Up S S' 1 ∧ NdF S' n a b := by
  unfold forkN
  rw [if_pos ok]
  unfold putP
  cases h : lkP S (fkR S a b).pc with
  | some n => exact ⟨n, S, rfl, (Up.refl w).mono (by omega), NdF.of w (lkP_pc h)⟩
  | none =>
    dsimp only
    rw [if_pos room]
    exact ⟨_, _, rfl, ⟨.fork w ok, List.prefix_append _ _, by simp⟩, fk_new ok (w.ends ok.a0 ok.a1) (w.ends ok.b0 ok.b1)⟩
end
/-! ### the least signs of a height -/
def minl : Nat → Nat
  | 0 => 1
  | 1 => 2
  | h + 2 => minl (h + 1) + minl h
theorem minl_step : ∀ h, minl h ≤ minl (h + 1)
  | 0 => by decide
  | 1 => by decide
  | h + 2 => by
    have h1 := minl_step h
    have h2 := minl_step (h + 1)
    show minl (h + 1) + minl h ≤ (minl (h + 1) + minl h) + minl (h + 1)
    omega
theorem minl_mono {h k : Nat} (l : h ≤ k) : minl h ≤ minl k := by
  induction k with
  | zero => have : h = 0 := by omega
            subst this; exact Nat.le_refl _
  | succ k ih =>
    by_cases e : h = k + 1
    · subst e; exact Nat.le_refl _
    · exact Nat.le_trans (ih (by omega)) (minl_step k)
theorem WF.minl {S : Sh} (w : WF S) : ∀ t, 0 < t → t ≤ S.length → minl (hgT S t) ≤ sgT S t := by
  intro t
  induction t using Nat.strongRecOn with
  | ind t ih =>
    intro h0 h1
    rcases w.nd h0 h1 with ⟨x, n⟩ | ⟨a, b, n⟩
    · rw [n.ht, n.sg]; exact n.ok.h1
    · have := n.a1; have := n.b1
      have i1 := ih a n.a1 n.a0 (by omega)
      have i2 := ih b n.b1 n.b0 (by omega)
      have h2 := n.h1
      have h3 := n.h2
      rw [n.ht, n.sg]
      by_cases e : hgT S a = hgT S b
      · rw [e, Nat.max_self, Nat.add_comm]
        rw [e] at i1
        cases hb : hgT S b with
        | zero => rw [hb] at i1 i2; show 2 ≤ _; have : SW.minl 0 = 1 := rfl; omega
        | succ k =>
          rw [hb] at i1 i2
          show SW.minl (k + 1) + SW.minl k ≤ _
          have := minl_step k
          omega
      · by_cases e2 : hgT S a < hgT S b
        · have e3 : hgT S b = hgT S a + 1 := by omega
          rw [Nat.max_eq_right (by omega), e3, show 1 + (hgT S a + 1) = hgT S a + 2 by omega]
          rw [e3] at i2
          show SW.minl (hgT S a + 1) + SW.minl (hgT S a) ≤ _
          omega
        · have e3 : hgT S a = hgT S b + 1 := by omega
          rw [Nat.max_eq_left (by omega), e3, show 1 + (hgT S b + 1) = hgT S b + 2 by omega]
          rw [e3] at i1
          show SW.minl (hgT S b + 1) + SW.minl (hgT S b) ≤ _
          omega
def fibs : Nat → Nat × Nat
  | 0 => (1, 2)
  | n + 1 => ((fibs n).2, (fibs n).1 + (fibs n).2)
theorem fibs_eq : ∀ n, fibs n = (minl n, minl (n + 1))
  | 0 => rfl
  | n + 1 => by
    show ((fibs n).2, (fibs n).1 + (fibs n).2) = _
    rw [fibs_eq n]
    show (minl (n + 1), minl n + minl (n + 1)) = (minl (n + 1), minl (n + 1) + minl n)
    rw [Nat.add_comm (minl n)]
theorem minl86 : 1000000000000000000 < minl 86 := by
  have h := fibs_eq 86
  have : 1000000000000000000 < (fibs 86).1 := by decide +kernel
  rw [h] at this
  exact this
/-- no text is higher than 85 -/
theorem WF.high {S : Sh} (w : WF S) {t : Nat} (h1 : t ≤ S.length) : hgT S t ≤ 85 := by
  by_cases h0 : t = 0
  · subst h0; show 0 ≤ 85; omega
  · have h2 := w.minl t (by omega) h1
    rcases w.nd (by omega) h1 with ⟨x, n⟩ | ⟨a, b, n⟩
    · rw [n.ht]; omega
    · have h3 := n.most
      have h4 := minl86
      apply Classical.byContradiction
      intro hc
      have := minl_mono (show 86 ≤ hgT S t by omega)
      omega
end SW
end

section
set_option Elab.async false
set_option linter.all false
set_option maxRecDepth 100000
set_option maxHeartbeats 4000000
/-! Joining: what it reads, how high, how many pieces. -/
namespace SW
open PySem L2
abbrev sz (x : Str) : Nat := x.cps.size
/-- a text: height, first and last leaf, signs -/
structure Tv (S : Sh) (t h : Nat) (f l : Str) (w : List Nat) : Prop where
  t0 : 0 < t
  t1 : t ≤ S.length
  hg : hgT S t = h
  fp : pcT S (fiT S t) = some (.inl f)
  lp : pcT S (laT S t) = some (.inl l)
  rd : rd S t = w
section
variable {S S' : Sh} {t a b h ha hb : Nat} {f l fa la fb lb : Str} {w wa wb : List Nat}
theorem Tv.ex (wf : WF S) (h0 : 0 < t) (h1 : t ≤ S.length) : ∃ f l, Tv S t (hgT S t) f l (SW.rd S t) := by
  have e := wf.ends h0 h1
  obtain ⟨x, hx⟩ := e.fx
  obtain ⟨y, hy⟩ := e.lx
  exact ⟨x, y, h0, h1, rfl, hx.pc, hy.pc, rfl⟩
theorem Tv.pre (p : S <+: S') (v : Tv S t h f l w) : Tv S' t h f l w :=
  ⟨v.t0, Nat.le_trans v.t1 p.length_le, by rw [hg_pre p v.t1]; exact v.hg, by rw [fi_pre p v.t1]; exact pcT_pre' p v.fp, by rw [la_pre p v.t1]; exact pcT_pre' p v.lp, by rw [rd_pre p v.t1]; exact v.rd⟩
theorem Tv.up {c : Nat} (u : Up S S' c) (v : Tv S t h f l w) : Tv S' t h f l w := v.pre u.pre
theorem Tv.fok (wf : WF S) (v : Tv S t h f l w) : LfOk f := (NdL.of wf v.fp).ok
theorem Tv.lok (wf : WF S) (v : Tv S t h f l w) : LfOk l := (NdL.of wf v.lp).ok
theorem Tv.len (wf : WF S) (v : Tv S t h f l w) : sgT S t = w.length := by rw [← wf.len t v.t1, v.rd]
theorem Tv.leaf (wf : WF S) (v : Tv S t 0 f l w) : NdL S t f ∧ f = l ∧ w = f.cps.toList := by
  rcases wf.nd v.t0 v.t1 with ⟨x, n⟩ | ⟨a, b, n⟩
  · have h1 := v.fp
    rw [n.fi, n.pc] at h1
    have h2 := v.lp
    rw [n.la, n.pc] at h2
    cases h1
    cases h2
    exact ⟨n, rfl, by rw [← v.rd, n.rd]⟩
  · have := n.ht; rw [v.hg] at this; omega
theorem NdL.tv (n : NdL S t f) : Tv S t 0 f f f.cps.toList := ⟨n.le.1, n.le.2, n.ht, by rw [n.fi]; exact n.pc, by rw [n.la]; exact n.pc, n.rd⟩
theorem Tv.fork (wf : WF S) (v : Tv S t (h + 1) f l w) : ∃ a b ha hb m n wa wb, pcT S t = some (.inr (a, b)) ∧ Tv S a ha f m wa ∧ Tv S b hb n l wb ∧ 8 < sz m + sz n ∧ h = max ha hb ∧ ha ≤ hb + 1 ∧ hb ≤ ha + 1 ∧ w = wa ++ wb ∧ w.length ≤ 1000000000000000000 := by
  rcases wf.nd v.t0 v.t1 with ⟨x, n⟩ | ⟨a, b, n⟩
  · have := n.ht; rw [v.hg] at this; omega
  · have hc := n.a1
    have hd := n.b1
    have ht := v.t1
    obtain ⟨f1, l1, va⟩ := Tv.ex wf n.a0 (show a ≤ S.length by omega)
    obtain ⟨f2, l2, vb⟩ := Tv.ex wf n.b0 (show b ≤ S.length by omega)
    have e1 := v.fp
    rw [n.fi, va.fp] at e1
    have e2 := v.lp
    rw [n.la, vb.lp] at e2
    cases e1
    cases e2
    refine ⟨a, b, _, _, l1, f2, _, _, n.pc, va, vb, ?_, ?_, n.h1, n.h2, ?_, ?_⟩
    · have := n.cl; rw [(NdL.of wf va.lp).sg, (NdL.of wf vb.fp).sg] at this; exact this
    · have := n.ht; rw [v.hg] at this; omega
    · rw [← v.rd, n.rd]
    · rw [← v.len wf]; exact n.most
theorem f_fork (wf : WF S) (va : Tv S a ha fa la wa) (vb : Tv S b hb fb lb wb) (cl : 8 < sz la + sz fb) (h1 : ha ≤ hb + 1) (h2 : hb ≤ ha + 1) (hs : wa.length + wb.length ≤ 1000000000000000000) (room : S.length + 2 < sizeLine) :
    ∃ r S', forkN a b S = some (r, S') ∧ Up S S' 1 ∧ Tv S' r (1 + max ha hb) fa lb (wa ++ wb) := by
  have nl := NdL.of wf va.lp
  have nf := NdL.of wf vb.fp
  have ok : FkOk S a b := ⟨va.t0, va.t1, vb.t0, vb.t1, nl.le.2, nf.le.2, by rw [nl.sg, nf.sg]; exact cl, by rw [va.hg, vb.hg]; exact h1, by rw [va.hg, vb.hg]; exact h2, by rw [va.len wf, vb.len wf]; exact hs⟩
  obtain ⟨r, S', e, u, n⟩ := s_fork wf ok room
  have va' := va.up u
  have vb' := vb.up u
  refine ⟨r, S', e, u, n.le.1, n.le.2, ?_, ?_, ?_, ?_⟩
  · rw [n.ht, va'.hg, vb'.hg]
  · rw [n.fi]; exact va'.fp
  · rw [n.la]; exact vb'.lp
  · rw [n.rd, va'.rd, vb'.rd]
theorem partsN_of (h : pcT S t = some (.inr (a, b))) : partsN t S = some ((a, b), S) := by
  unfold partsN
  rw [bnd_of (show pcN t S = some (.inr (a, b), S) by unfold pcN; rw [h]; rfl)]
  rfl
theorem look_of {α : Type} {k : Sh → α} (h : t ≤ S.length) : look t k S = some (k S, S) := by unfold look; rw [if_pos h]
theorem htN_of (v : Tv S t h f l w) : htN t S = some ((h : Int), S) := by
  unfold htN
  rw [look_of v.t1, htT_pos v.t0, v.hg]
theorem sgN_of (wf : WF S) (v : Tv S t h f l w) : sgN t S = some (w.length, S) := by
  unfold sgN
  rw [look_of v.t1, v.len wf]
/-- levelled -/
theorem s_lev (wf : WF S) (va : Tv S a ha fa la wa) (vb : Tv S b hb fb lb wb) (cl : 8 < sz la + sz fb) (h1 : ha ≤ hb + 2) (h2 : hb ≤ ha + 2) (hs : wa.length + wb.length ≤ 1000000000000000000) (room : S.length + 5 < sizeLine) :
    ∃ r S' h, levN a b S = some (r, S') ∧ Up S S' 3 ∧ Tv S' r h fa lb (wa ++ wb) ∧ (h = 1 + max ha hb ∨ (h = max ha hb ∧ (ha = hb + 2 ∨ hb = ha + 2))) := by
  have lv : ∀ {β : Type} (k : M β), True := fun _ => trivial
  unfold levN
  rw [bnd_of (htN_of vb), bnd_of (htN_of va)]
  by_cases c1 : hb = ha + 2
  · rw [if_pos (by omega)]
    subst c1
    obtain ⟨i, o, hi, ho, m, n, wi, wo, pc, vi, vo, cl2, e1, e2, e3, rfl, _⟩ := Tv.fork (h := ha + 1) wf vb
    rw [List.length_append] at hs
    unfold trN
    rw [bnd_of (partsN_of pc)]
    dsimp only
    rw [bnd_of (htN_of vi), bnd_of (htN_of vo)]
    by_cases c2 : hi ≤ ho
    · rw [if_pos (by omega)]
      obtain ⟨x, S1, d1, u1, vx⟩ := f_fork wf va vi cl (by omega) (by omega) (by omega) (by omega)
      rw [bnd_of d1]
      have := u1.len
      obtain ⟨y, S2, d2, u2, vy⟩ := f_fork u1.wf vx (vo.up u1) cl2 (by omega) (by omega) (by rw [List.length_append]; omega) (by omega)
      refine ⟨y, S2, _, d2, (u1.trans u2).mono (by omega), by rw [← List.append_assoc]; exact vy, ?_⟩
      omega
    · rw [if_neg (by omega)]
      obtain ⟨k, rfl⟩ : ∃ k, hi = k + 1 := ⟨hi - 1, by omega⟩
      obtain ⟨p, q, hp, hq, m2, n2, wp, wq, pc2, vp, vq, cl3, e4, e5, e6, rfl, _⟩ := Tv.fork wf vi
      rw [List.length_append] at hs
      rw [bnd_of (partsN_of pc2)]
      dsimp only
      obtain ⟨x, S1, d1, u1, vx⟩ := f_fork wf va vp cl (by omega) (by omega) (by omega) (by omega)
      rw [bnd_of d1]
      have := u1.len
      obtain ⟨y, S2, d2, u2, vy⟩ := f_fork u1.wf (vq.up u1) (vo.up u1) cl2 (by omega) (by omega) (by omega) (by omega)
      rw [bnd_of d2]
      have := u2.len
      obtain ⟨z, S3, d3, u3, vz⟩ := f_fork u2.wf (vx.up u2) vy cl3 (by omega) (by omega) (by simp only [List.length_append]; omega) (by omega)
      refine ⟨z, S3, _, d3, ((u1.trans u2).trans u3).mono (by omega), by simpa only [List.append_assoc] using vz, ?_⟩
      omega
  · rw [if_neg (by omega)]
    by_cases c3 : ha = hb + 2
    · rw [if_pos (by omega)]
      subst c3
      obtain ⟨o, i, ho, hi, m, n, wo, wi, pc, vo, vi, cl2, e1, e2, e3, rfl, _⟩ := Tv.fork (h := hb + 1) wf va
      rw [List.length_append] at hs
      unfold tlN
      rw [bnd_of (partsN_of pc)]
      dsimp only
      rw [bnd_of (htN_of vi), bnd_of (htN_of vo)]
      by_cases c2 : hi ≤ ho
      · rw [if_pos (by omega)]
        obtain ⟨x, S1, d1, u1, vx⟩ := f_fork wf vi vb cl (by omega) (by omega) (by omega) (by omega)
        rw [bnd_of d1]
        have := u1.len
        obtain ⟨y, S2, d2, u2, vy⟩ := f_fork u1.wf (vo.up u1) vx cl2 (by omega) (by omega) (by rw [List.length_append]; omega) (by omega)
        refine ⟨y, S2, _, d2, (u1.trans u2).mono (by omega), by rw [List.append_assoc]; exact vy, ?_⟩
        omega
      · rw [if_neg (by omega)]
        obtain ⟨k, rfl⟩ : ∃ k, hi = k + 1 := ⟨hi - 1, by omega⟩
        obtain ⟨p, q, hp, hq, m2, n2, wp, wq, pc2, vp, vq, cl3, e4, e5, e6, rfl, _⟩ := Tv.fork wf vi
        rw [List.length_append] at hs
        rw [bnd_of (partsN_of pc2)]
        dsimp only
        obtain ⟨x, S1, d1, u1, vx⟩ := f_fork wf vo vp cl2 (by omega) (by omega) (by omega) (by omega)
        rw [bnd_of d1]
        have := u1.len
        obtain ⟨y, S2, d2, u2, vy⟩ := f_fork u1.wf (vq.up u1) (vb.up u1) cl (by omega) (by omega) (by omega) (by omega)
        rw [bnd_of d2]
        have := u2.len
        obtain ⟨z, S3, d3, u3, vz⟩ := f_fork u2.wf (vx.up u2) vy cl3 (by omega) (by omega) (by simp only [List.length_append]; omega) (by omega)
        refine ⟨z, S3, _, d3, ((u1.trans u2).trans u3).mono (by omega), by simpa only [List.append_assoc] using vz, ?_⟩
        omega
    · rw [if_neg (by omega)]
      obtain ⟨x, S1, d1, u1, vx⟩ := f_fork wf va vb cl (by omega) (by omega) (by omega) (by omega)
      exact ⟨x, S1, _, d1, u1.mono (by omega), vx, .inl rfl⟩
end
/-- linked -/
theorem s_lk : ∀ {n : Nat} {S : Sh} {a b ha hb : Nat} {fa la fb lb : Str} {wa wb : List Nat} (wf : WF S) (va : Tv S a ha fa la wa) (vb : Tv S b hb fb lb wb) (cl : 8 < sz la + sz fb) (h1 : ha ≤ hb + n) (h2 : hb ≤ ha + n) (hs : wa.length + wb.length ≤ 1000000000000000000)
    (room : S.length + (3 * ((max ha hb - min ha hb) - 1) + 1) + 2 < sizeLine),
    ∃ r S' h, lkN (n + 1) a b S = some (r, S') ∧ Up S S' (3 * ((max ha hb - min ha hb) - 1) + 1) ∧ Tv S' r h fa lb (wa ++ wb) ∧ (h = 1 + max ha hb ∨ (h = max ha hb ∧ (ha ≥ hb + 2 ∨ hb ≥ ha + 2))) := by
  intro n
  induction n with
  | zero =>
    intro S a b ha hb fa la fb lb wa wb wf va vb cl h1 h2 hs room
    have := va.t0
    have := vb.t0
    unfold lkN
    rw [if_neg (by omega), bnd_of (htN_of va), bnd_of (htN_of vb), if_neg (by omega), if_neg (by omega)]
    obtain ⟨x, S1, d1, u1, vx⟩ := f_fork wf va vb cl (by omega) (by omega) (by omega) (by omega)
    exact ⟨x, S1, _, d1, u1.mono (by omega), vx, .inl rfl⟩
  | succ n ih =>
    intro S a b ha hb fa la fb lb wa wb wf va vb cl h1 h2 hs room
    have := va.t0
    have := vb.t0
    unfold lkN
    rw [if_neg (by omega), bnd_of (htN_of va), bnd_of (htN_of vb)]
    by_cases c1 : hb + 1 < ha
    · rw [if_pos (by omega)]
      obtain ⟨k, rfl⟩ : ∃ k, ha = k + 1 := ⟨ha - 1, by omega⟩
      obtain ⟨p, q, hp, hq, m, m2, wp, wq, pc, vp, vq, cl2, e1, e2, e3, rfl, _⟩ := Tv.fork wf va
      rw [List.length_append] at hs
      rw [bnd_of (partsN_of pc)]
      dsimp only
      obtain ⟨x, S1, hx, d1, u1, vx, ex⟩ := ih wf vq vb cl (by omega) (by omega) (by omega) (by omega)
      rw [bnd_of d1]
      have := u1.len
      obtain ⟨y, S2, hy, d2, u2, vy, ey⟩ := s_lev u1.wf (vp.up u1) vx cl2 (by omega) (by omega) (by rw [List.length_append]; omega) (by omega)
      refine ⟨y, S2, hy, d2, (u1.trans u2).mono (by omega), by rw [List.append_assoc]; exact vy, ?_⟩
      omega
    · rw [if_neg (by omega)]
      by_cases c2 : ha + 1 < hb
      · rw [if_pos (by omega)]
        obtain ⟨k, rfl⟩ : ∃ k, hb = k + 1 := ⟨hb - 1, by omega⟩
        obtain ⟨p, q, hp, hq, m, m2, wp, wq, pc, vp, vq, cl2, e1, e2, e3, rfl, _⟩ := Tv.fork wf vb
        rw [List.length_append] at hs
        rw [bnd_of (partsN_of pc)]
        dsimp only
        obtain ⟨x, S1, hx, d1, u1, vx, ex⟩ := ih wf va vp cl (by omega) (by omega) (by omega) (by omega)
        rw [bnd_of d1]
        have := u1.len
        obtain ⟨y, S2, hy, d2, u2, vy, ey⟩ := s_lev u1.wf vx (vq.up u1) cl2 (by omega) (by omega) (by rw [List.length_append]; omega) (by omega)
        refine ⟨y, S2, hy, d2, (u1.trans u2).mono (by omega), by rw [← List.append_assoc]; exact vy, ?_⟩
        omega
      · rw [if_neg (by omega)]
        obtain ⟨x, S1, d1, u1, vx⟩ := f_fork wf va vb cl (by omega) (by omega) (by omega) (by omega)
        exact ⟨x, S1, _, d1, u1.mono (by omega), vx, .inl rfl⟩
end SW
end

section
set_option Elab.async false
set_option linter.all false
set_option maxRecDepth 100000
set_option maxHeartbeats 4000000
/-! Joined: what it reads, how high, how many pieces. -/
namespace SW
open PySem L2
section
variable {S S' : Sh} {t a b h ha hb : Nat} {f l fa la fb lb : Str} {w wa wb : List Nat}
theorem lk_zero {n a : Nat} : lkN (n + 1) a 0 S = some (a, S) := by unfold lkN; rw [if_pos (.inr rfl)]; rfl
theorem lk_zero' {n a : Nat} : lkN (n + 1) 0 a S = some (a, S) := by unfold lkN; rw [if_pos (.inl rfl), Nat.zero_add]; rfl
end
theorem s_wl : ∀ {n : Nat} {S : Sh} {t h : Nat} {f l : Str} {w : List Nat} (wf : WF S) (v : Tv S t h f l w) (hn : h ≤ n) (hs : w.length ≤ 1000000000000000000) (room : S.length + 4 * h + 2 < sizeLine),
    ∃ r S', wlN (n + 1) t S = some (r, S') ∧ Up S S' (4 * h) ∧ ((h = 0 ∧ r = 0) ∨ (0 < h ∧ ∃ h' l' w', Tv S' r h' f l' w' ∧ w = w' ++ l.cps.toList ∧ 8 < sz l' + sz l ∧ h' ≤ h ∧ h ≤ h' + 1)) := by
  intro n
  induction n with
  | zero =>
    intro S t h f l w wf v hn hs room
    unfold wlN
    rw [bnd_of (htN_of v), if_pos (by omega)]
    exact ⟨0, S, rfl, (Up.refl wf).mono (by omega), .inl ⟨by omega, rfl⟩⟩
  | succ n ih =>
    intro S t h f l w wf v hn hs room
    unfold wlN
    rw [bnd_of (htN_of v)]
    by_cases h0 : h = 0
    · rw [if_pos (by omega)]
      exact ⟨0, S, rfl, (Up.refl wf).mono (by omega), .inl ⟨by omega, rfl⟩⟩
    rw [if_neg (by omega)]
    obtain ⟨k, rfl⟩ : ∃ k, h = k + 1 := ⟨h - 1, by omega⟩
    obtain ⟨p, q, hp, hq, m, m2, wp, wq, pc, vp, vq, cl2, e1, e2, e3, rfl, _⟩ := Tv.fork wf v
    rw [List.length_append] at hs
    rw [bnd_of (partsN_of pc)]
    dsimp only
    obtain ⟨x, S1, d1, u1, hx⟩ := ih wf vq (by omega) (by omega) (by omega)
    rw [bnd_of d1]
    rcases hx with ⟨rfl, rfl⟩ | ⟨hq0, h', l', w', vx, rfl, cl3, e4, e5⟩
    · obtain ⟨nl, rfl, rfl⟩ := vq.leaf wf
      refine ⟨p, S1, lk_zero, u1.mono (by omega), .inr ⟨by omega, hp, m, wp, vp.up u1, rfl, cl2, by omega, by omega⟩⟩
    · have := u1.len
      rw [List.length_append] at hs
      obtain ⟨y, S2, hy, d2, u2, vy, ey⟩ := s_lk (n := n + 3) u1.wf (vp.up u1) vx cl2 (by omega) (by omega) (by omega) (by omega)
      refine ⟨y, S2, d2, (u1.trans u2).mono (by omega), .inr ⟨by omega, hy, l', _, vy, by rw [List.append_assoc], cl3, by omega, by omega⟩⟩
theorem s_wf : ∀ {n : Nat} {S : Sh} {t h : Nat} {f l : Str} {w : List Nat} (wf : WF S) (v : Tv S t h f l w) (hn : h ≤ n) (hs : w.length ≤ 1000000000000000000) (room : S.length + 4 * h + 2 < sizeLine),
    ∃ r S', wfN (n + 1) t S = some (r, S') ∧ Up S S' (4 * h) ∧ ((h = 0 ∧ r = 0) ∨ (0 < h ∧ ∃ h' f' w', Tv S' r h' f' l w' ∧ w = f.cps.toList ++ w' ∧ 8 < sz f + sz f' ∧ h' ≤ h ∧ h ≤ h' + 1)) := by
  intro n
  induction n with
  | zero =>
    intro S t h f l w wf v hn hs room
    unfold wfN
    rw [bnd_of (htN_of v), if_pos (by omega)]
    exact ⟨0, S, rfl, (Up.refl wf).mono (by omega), .inl ⟨by omega, rfl⟩⟩
  | succ n ih =>
    intro S t h f l w wf v hn hs room
    unfold wfN
    rw [bnd_of (htN_of v)]
    by_cases h0 : h = 0
    · rw [if_pos (by omega)]
      exact ⟨0, S, rfl, (Up.refl wf).mono (by omega), .inl ⟨by omega, rfl⟩⟩
    rw [if_neg (by omega)]
    obtain ⟨k, rfl⟩ : ∃ k, h = k + 1 := ⟨h - 1, by omega⟩
    obtain ⟨p, q, hp, hq, m, m2, wp, wq, pc, vp, vq, cl2, e1, e2, e3, rfl, _⟩ := Tv.fork wf v
    rw [List.length_append] at hs
    rw [bnd_of (partsN_of pc)]
    dsimp only
    obtain ⟨x, S1, d1, u1, hx⟩ := ih wf vp (by omega) (by omega) (by omega)
    rw [bnd_of d1]
    rcases hx with ⟨rfl, rfl⟩ | ⟨hq0, h', l', w', vx, rfl, cl3, e4, e5⟩
    · obtain ⟨nl, rfl, rfl⟩ := vp.leaf wf
      refine ⟨q, S1, lk_zero', u1.mono (by omega), .inr ⟨by omega, hq, m2, wq, vq.up u1, rfl, cl2, by omega, by omega⟩⟩
    · have := u1.len
      rw [List.length_append] at hs
      obtain ⟨y, S2, hy, d2, u2, vy, ey⟩ := s_lk (n := n + 3) u1.wf vx (vq.up u1) cl2 (by omega) (by omega) (by omega) (by omega)
      refine ⟨y, S2, d2, (u1.trans u2).mono (by omega), .inr ⟨by omega, hy, l', _, vy, by rw [List.append_assoc], cl3, by omega, by omega⟩⟩
section
variable {S S' : Sh} {t a b h ha hb : Nat} {f l fa la fb lb : Str} {w wa wb : List Nat}
theorem cat_tl (x y : Str) : (x ++ y).cps.toList = x.cps.toList ++ y.cps.toList := by
  show (x.cps ++ y.cps).toList = _
  simp
theorem sz_cat (x y : Str) : sz (x ++ y) = sz x + sz y := by
  show (x.cps ++ y.cps).size = _
  simp
theorem plain_cat {x y : Str} (h1 : plainB x = true) (h2 : plainB y = true) : plainB (x ++ y) = true := by
  unfold plainB at *
  rw [cat_tl, List.all_append, h1, h2]; rfl
theorem ltN_of {x : Str} (h : pcT S t = some (.inl x)) : ltN t S = some (x, S) := by
  unfold ltN
  rw [bnd_of (show pcN t S = some (.inl x, S) by unfold pcN; rw [h]; rfl)]
  rfl
theorem laN_of (v : Tv S t h f l w) : laN t S = some (laT S t, S) := look_of v.t1
theorem fiN_of (v : Tv S t h f l w) : fiN t S = some (fiT S t, S) := look_of v.t1
/-- what poured and joined tell -/
structure JoR (S S' : Sh) (r c ha hb : Nat) (fa la fb lb : Str) (wa wb : List Nat) (h : Nat) (f l : Str) : Prop where
  up : Up S S' c
  tv : Tv S' r h f l (wa ++ wb)
  fz : sz fa ≤ sz f
  lz : sz lb ≤ sz l
  h1 : h ≤ max (ha + 1) hb + 1
  h2 : ha = 0 → h ≤ hb + 1
  h3 : hb = 0 → h ≤ ha + 1
  c1 : c ≤ 7 * ha + 4 * hb + 3 * max ha hb + 2
  c2 : ha = 0 → c ≤ 7 * hb + 1
  c3 : hb = 0 → c ≤ 7 * ha + 1
theorem s_po {n : Nat} (wf : WF S) (va : Tv S a ha fa la wa) (vb : Tv S b hb fb lb wb) (lo : sz la + sz fb ≤ 8) (h1 : ha ≤ n) (h2 : hb ≤ n) (hs : wa.length + wb.length ≤ 1000000000000000000)
    (room : S.length + 14 * max ha hb + 10 < sizeLine) : ∃ r S' c h f l, poN (n + 1) a b S = some (r, S') ∧ JoR S S' r c ha hb fa la fb lb wa wb h f l := by
  have okl := va.lok wf
  have okf := vb.fok wf
  unfold poN
  rw [bnd_of (laN_of va), bnd_of (ltN_of va.lp), bnd_of (fiN_of vb), bnd_of (ltN_of vb.fp)]
  have ok : LfOk (la ++ fb) := ⟨plain_cat okl.pl okf.pl, by have := sz_cat la fb; have := okl.h1; show 1 ≤ sz _; rw [sz_cat]; simp only [sz]; omega, by show sz _ ≤ 8; rw [sz_cat]; exact lo⟩
  obtain ⟨m, S1, d1, u1, nm⟩ := s_leaf wf ok (by omega)
  rw [bnd_of d1]
  have vm := nm.tv
  rw [cat_tl] at vm
  have szm := sz_cat la fb
  have := u1.len
  obtain ⟨u, S2, d2, u2, hu⟩ := s_wl u1.wf (va.up u1) h1 (by omega) (by omega)
  rw [bnd_of d2]
  have := u2.len
  have fin : ∀ (v : Nat) (S3 : Sh) (hv c : Nat) (fv : Str) (wv : List Nat), lkN (n + 1 + 3) u m S2 = some (v, S3) → Up S2 S3 c → Tv S3 v hv fv (la ++ fb) wv → wa ++ fb.cps.toList = wv → sz fa ≤ sz fv → hv ≤ ha + 1 → (ha = 0 → hv = 0) → c ≤ 3 * ha →
      ∃ r S' c h f l, (bnd (lkN (n + 1 + 3) u m) fun v => bnd (wfN (n + 1) b) fun w => lkN (n + 1 + 3) v w) S2 = some (r, S') ∧ JoR S S' r c ha hb fa la fb lb wa wb h f l := by
    clear hu
    intro v S3 hv c fv wv d3 u3 vv ew hfz hhv hhv0 hc
    rw [bnd_of d3]
    have := u3.len
    have vb3 := ((vb.up u1).up u2).up u3
    have e5 : wa.length + sz fb = wv.length := by rw [← ew, List.length_append]; simp
    obtain ⟨x, S4, d4, u4, hx⟩ := s_wf u3.wf vb3 h2 (by omega) (by omega)
    rw [bnd_of d4]
    have := u4.len
    rcases hx with ⟨rfl, rfl⟩ | ⟨hb0, h', f', w', vx, rfl, cl, e6, e7⟩
    · obtain ⟨nl, rfl, rfl⟩ := vb3.leaf u3.wf
      refine ⟨v, S4, 1 + 4 * ha + c + 4 * 0, hv, fv, la ++ fb, lk_zero, ((u1.trans u2).trans u3).trans u4, ?_, hfz, ?_, by omega, by omega, by omega, by omega, by omega, by omega⟩
      · rw [ew]; exact vv.up u4
      · rw [szm]; omega
    · rw [List.length_append] at hs
      have e8 : fb.cps.toList.length = sz fb := by simp
      obtain ⟨y, S5, hy, d5, u5, vy, ey⟩ := s_lk (n := n + 3) u4.wf (vv.up u4) vx (by rw [szm]; omega) (by omega) (by omega) (by omega) (by omega)
      refine ⟨y, S5, _, hy, fv, lb, d5, (((u1.trans u2).trans u3).trans u4).trans u5, ?_, hfz, Nat.le_refl _, by omega, by omega, by omega, by omega, by omega, by omega⟩
      rw [← List.append_assoc, ew]; exact vy
  rcases hu with ⟨rfl, rfl⟩ | ⟨ha0, h', l', w', vu, rfl, cl, e4, e5⟩
  · obtain ⟨nl, rfl, rfl⟩ := va.leaf wf
    exact fin m S2 0 0 _ _ lk_zero' ((Up.refl u2.wf)) (vm.up u2) rfl (by rw [szm]; omega) (by omega) (by omega) (by omega)
  · rw [List.length_append] at hs
    have e8 : la.cps.toList.length = sz la := by simp
    have e9 : fb.cps.toList.length ≤ wb.length := by
      by_cases hb0 : hb = 0
      · subst hb0
        obtain ⟨_, _, e⟩ := vb.leaf wf
        rw [e]; exact Nat.le_refl _
      · obtain ⟨_, _, _, _, q⟩ := s_wf (n := n) wf vb h2 (by omega) (by omega)
        rcases q with ⟨q, _⟩ | ⟨_, _, _, _, _, e, _⟩
        · omega
        · rw [e, List.length_append]; omega
    obtain ⟨v, S3, hv, d3, u3, vv, ev⟩ := s_lk (n := n + 3) u2.wf vu (vm.up u2) (by rw [szm]; omega) (by omega) (by omega) (by rw [List.length_append]; omega) (by omega)
    exact fin v S3 hv _ _ _ d3 u3 vv (by simp only [List.append_assoc]) (Nat.le_refl _) (by omega) (by omega) (by omega)
theorem looseN_of (wf : WF S) (va : Tv S a ha fa la wa) (vb : Tv S b hb fb lb wb) : looseN a b S = some (decide (sz la + sz fb ≤ 8), S) := by
  have nl := NdL.of wf va.lp
  have nf := NdL.of wf vb.fp
  unfold looseN
  rw [bnd_of (laN_of va), bnd_of (fiN_of vb), bnd_of (sgN_of wf (nl.tv)), bnd_of (sgN_of wf nf.tv)]
  simp [ret]
theorem s_jo {n : Nat} (wf : WF S) (va : Tv S a ha fa la wa) (vb : Tv S b hb fb lb wb) (h1 : ha ≤ n) (h2 : hb ≤ n) (hs : wa.length + wb.length ≤ 1000000000000000000)
    (room : S.length + 14 * max ha hb + 10 < sizeLine) : ∃ r S' c h f l, joN (n + 1) a b S = some (r, S') ∧ JoR S S' r c ha hb fa la fb lb wa wb h f l ∧ (8 < sz la + sz fb → c ≤ 3 * ((max ha hb - min ha hb) - 1) + 1 ∧ h ≤ 1 + max ha hb ∧ max ha hb ≤ h) := by
  have := va.t0
  have := vb.t0
  unfold joN
  rw [bnd_of (sgN_of wf va), bnd_of (sgN_of wf vb), if_neg (by omega), if_neg (by omega), bnd_of (looseN_of wf va vb)]
  by_cases c : sz la + sz fb ≤ 8
  · rw [if_pos (by simpa using c)]
    obtain ⟨r, S', cc, h, f, l, d, j⟩ := s_po wf va vb c h1 h2 hs room
    exact ⟨r, S', cc, h, f, l, d, j, fun z => by omega⟩
  · rw [if_neg (by simpa using c)]
    obtain ⟨y, S2, hy, d2, u2, vy, ey⟩ := s_lk (n := n + 3) wf va vb (by omega) (by omega) (by omega) hs (by omega)
    exact ⟨y, S2, _, hy, fa, lb, d2, ⟨u2, vy, Nat.le_refl _, Nat.le_refl _, by omega, by omega, by omega, by omega, by omega, by omega⟩, fun _ => ⟨Nat.le_refl _, by omega, by omega⟩⟩
theorem jo_zero {n : Nat} (wf : WF S) (va : Tv S a ha fa la wa) (hs : wa.length ≤ 1000000000000000000) : joN n a 0 S = some (a, S) := by
  unfold joN
  rw [bnd_of (sgN_of wf va), bnd_of (show sgN 0 S = some (0, S) from look_of (Nat.zero_le _)), if_neg (by omega), if_pos (.inr rfl)]
  rfl
theorem jo_zero' {n : Nat} (wf : WF S) (va : Tv S a ha fa la wa) (hs : wa.length ≤ 1000000000000000000) : joN n 0 a S = some (a, S) := by
  unfold joN
  rw [bnd_of (show sgN 0 S = some (0, S) from look_of (Nat.zero_le _)), bnd_of (sgN_of wf va), if_neg (by omega), if_pos (.inl rfl), Nat.zero_add]
  rfl
theorem jo_zeros {n : Nat} : joN n 0 0 S = some (0, S) := by
  unfold joN
  rw [bnd_of (show sgN 0 S = some (0, S) from look_of (Nat.zero_le _)), bnd_of (show sgN 0 S = some (0, S) from look_of (Nat.zero_le _)), if_neg (by omega), if_pos (.inl rfl)]
  rfl
end
end SW
end

section
set_option Elab.async false
set_option linter.all false
set_option maxRecDepth 100000
set_option maxHeartbeats 4000000
/-! Halves: what they read, how high, how many pieces. -/
namespace SW
open PySem L2
/-- a part of a cut text: hm the greatest height, z the least signs of its outer leaf; p a potential -/
inductive PtL (S : Sh) (H hm z : Nat) : Nat → List Nat → Nat → Prop
  | nil : PtL S H hm z 0 [] 0
  | shut {r h : Nat} {f l : Str} {w : List Nat} : Tv S r h f l w → h ≤ hm → z ≤ sz f → PtL S H hm z r w (3 * h + (7 * H + 5))
  | open {r : Nat} {f l : Str} {w : List Nat} : Tv S r 0 f l w → PtL S H hm z r w 0
inductive PtR (S : Sh) (H hm z : Nat) : Nat → List Nat → Nat → Prop
  | nil : PtR S H hm z 0 [] 0
  | shut {r h : Nat} {f l : Str} {w : List Nat} : Tv S r h f l w → h ≤ hm → z ≤ sz l → PtR S H hm z r w (3 * h + (7 * H + 5))
  | open {r : Nat} {f l : Str} {w : List Nat} : Tv S r 0 f l w → PtR S H hm z r w 0
section
variable {S S' : Sh} {H hm z r p : Nat} {w : List Nat}
theorem PtL.up {c : Nat} (u : Up S S' c) (h : PtL S H hm z r w p) : PtL S' H hm z r w p := by
  cases h with
  | nil => exact .nil
  | shut v a b => exact .shut (v.up u) a b
  | «open» v => exact .open (v.up u)
theorem PtR.up {c : Nat} (u : Up S S' c) (h : PtR S H hm z r w p) : PtR S' H hm z r w p := by
  cases h with
  | nil => exact .nil
  | shut v a b => exact .shut (v.up u) a b
  | «open» v => exact .open (v.up u)
theorem PtL.mono {hm' : Nat} (e : hm ≤ hm') (h : PtL S H hm z r w p) : PtL S H hm' z r w p := by
  cases h with
  | nil => exact .nil
  | shut v a b => exact .shut v (by omega) b
  | «open» v => exact .open v
theorem PtR.mono {hm' : Nat} (e : hm ≤ hm') (h : PtR S H hm z r w p) : PtR S H hm' z r w p := by
  cases h with
  | nil => exact .nil
  | shut v a b => exact .shut v (by omega) b
  | «open» v => exact .open v
theorem PtL.le (h : PtL S H hm z r w p) : p ≤ 3 * hm + (7 * H + 5) := by
  cases h <;> omega
theorem PtR.le (h : PtR S H hm z r w p) : p ≤ 3 * hm + (7 * H + 5) := by
  cases h <;> omega
theorem lf_sub {x : Str} {ys : List Nat} (ok : LfOk x) (hs : ∀ c ∈ ys, c ∈ x.cps.toList) (h1 : 1 ≤ ys.length) (h8 : ys.length ≤ 8) : LfOk ⟨ys.toArray⟩ := by
  refine ⟨?_, by simpa using h1, by simpa using h8⟩
  have := ok.pl
  unfold plainB at *
  rw [List.all_eq_true] at *
  intro c hc
  exact this c (hs c (by simpa using hc))
theorem s_le {t at_ : Nat} {x : Str} (wf : WF S) (n : NdL S t x) (h0 : 0 < at_) (h1 : at_ < sz x) (room : S.length + 4 < sizeLine) :
    ∃ a b S' f l, leN t at_ S = some ((a, b), S') ∧ Up S S' 2 ∧ Tv S' a 0 f f (x.cps.toList.take at_) ∧ Tv S' b 0 l l (x.cps.toList.drop at_) := by
  have h8 : sz x ≤ 8 := n.ok.h8
  have e : x.cps.toList.length = sz x := by simp
  unfold leN
  rw [bnd_of (ltN_of n.pc), if_neg (Nat.not_lt.mpr h8), cutS_to, cutS_from]
  have ok1 : LfOk ⟨(x.cps.toList.take at_).toArray⟩ := lf_sub n.ok (fun c hc => List.mem_of_mem_take hc) (by rw [List.length_take]; omega) (by rw [List.length_take]; omega)
  have ok2 : LfOk ⟨(x.cps.toList.drop at_).toArray⟩ := lf_sub n.ok (fun c hc => List.mem_of_mem_drop hc) (by rw [List.length_drop]; omega) (by rw [List.length_drop]; omega)
  obtain ⟨a, S1, d1, u1, n1⟩ := s_leaf wf ok1 (by omega)
  have := u1.len
  obtain ⟨b, S2, d2, u2, n2⟩ := s_leaf u1.wf ok2 (by omega)
  have p1 : lpN ⟨(x.cps.toList.take at_).toArray⟩ S = some (a, S1) := by unfold lpN; rw [if_neg (by have := ok1.h1; omega)]; exact d1
  have p2 : lpN ⟨(x.cps.toList.drop at_).toArray⟩ S1 = some (b, S2) := by unfold lpN; rw [if_neg (by have := ok2.h1; omega)]; exact d2
  rw [bnd_of p1, bnd_of p2]
  have v1 := (n1.tv).up u2
  have v2 := n2.tv
  exact ⟨a, b, S2, _, _, rfl, u1.trans u2, v1, v2⟩
end
theorem s_ha : ∀ {n : Nat} {S : Sh} {t h H at_ : Nat} {f l : Str} {w : List Nat} (wf : WF S) (v : Tv S t h f l w) (hn : h ≤ n) (hH : h ≤ H) (hat : at_ ≤ w.length) (hs : w.length ≤ 1000000000000000000) (room : S.length + 40 * H + 40 < sizeLine),
    ∃ x y S' c pl pr, haN (n + 1) t at_ S = some ((x, y), S') ∧ Up S S' c ∧ PtL S' H h (sz f) x (w.take at_) pl ∧ PtR S' H h (sz l) y (w.drop at_) pr ∧ c ≤ h + 2 + pl + pr := by
  intro n
  induction n with
  | zero =>
    intro S t h H at_ f l w wf v hn hH hat hs room
    have h0 : h = 0 := by omega
    subst h0
    obtain ⟨nl, rfl, rfl⟩ := v.leaf wf
    unfold haN
    by_cases c0 : at_ = 0
    · subst c0
      rw [if_pos rfl]
      exact ⟨0, t, S, 0, _, _, rfl, Up.refl wf, .nil, .shut v (Nat.le_refl _) (Nat.le_refl _), by omega⟩
    rw [if_neg c0, bnd_of (sgN_of wf v)]
    by_cases c1 : at_ = f.cps.toList.length
    · rw [if_pos c1, c1, List.take_length, List.drop_length]
      exact ⟨t, 0, S, 0, _, _, rfl, Up.refl wf, .shut v (Nat.le_refl _) (Nat.le_refl _), .nil, by omega⟩
    rw [if_neg c1, bnd_of (htN_of v), if_pos (show ((0 : Nat) : Int) = 0 from rfl)]
    have e : f.cps.toList.length = sz f := by simp
    obtain ⟨a, b, S', f2, l2, d, u, va, vb⟩ := s_le wf nl (by omega) (show at_ < sz f by omega) (by omega)
    exact ⟨a, b, S', 2, 0, 0, d, u, .open va, .open vb, by omega⟩
  | succ n ih =>
    intro S t h H at_ f l w wf v hn hH hat hs room
    unfold haN
    by_cases c0 : at_ = 0
    · subst c0
      rw [if_pos rfl]
      exact ⟨0, t, S, 0, _, _, rfl, Up.refl wf, .nil, .shut v (Nat.le_refl _) (Nat.le_refl _), by omega⟩
    rw [if_neg c0, bnd_of (sgN_of wf v)]
    by_cases c1 : at_ = w.length
    · rw [if_pos c1, c1, List.take_length, List.drop_length]
      exact ⟨t, 0, S, 0, _, _, rfl, Up.refl wf, .shut v (Nat.le_refl _) (Nat.le_refl _), .nil, by omega⟩
    rw [if_neg c1, bnd_of (htN_of v)]
    by_cases h0 : h = 0
    · subst h0
      rw [if_pos (show ((0 : Nat) : Int) = 0 from rfl)]
      obtain ⟨nl, rfl, rfl⟩ := v.leaf wf
      have e : f.cps.toList.length = sz f := by simp
      obtain ⟨a, b, S', f2, l2, d, u, va, vb⟩ := s_le wf nl (by omega) (show at_ < sz f by omega) (by omega)
      exact ⟨a, b, S', 2, 0, 0, d, u, .open va, .open vb, by omega⟩
    rw [if_neg (by omega)]
    obtain ⟨k, rfl⟩ : ∃ k, h = k + 1 := ⟨h - 1, by omega⟩
    obtain ⟨a, b, ha, hb, m, m2, wa, wb, pc, va, vb, cl, e1, e2, e3, rfl, _⟩ := Tv.fork wf v
    rw [List.length_append] at hs hat c1
    rw [bnd_of (partsN_of pc)]
    dsimp only
    rw [bnd_of (sgN_of wf va)]
    by_cases c2 : at_ < wa.length
    · rw [if_pos c2]
      obtain ⟨x, y, S1, c, pl, pr, d1, u1, L, R, hc⟩ := ih (H := H) wf va (by omega) (by omega) (show at_ ≤ wa.length by omega) (by omega) (by omega)
      rw [bnd_of d1]
      dsimp only
      have u1l := u1.len
      have lle := L.le
      have rle := R.le
      have hd : (wa.drop at_).length = wa.length - at_ := List.length_drop
      rw [List.take_append_of_le_length (by omega), List.drop_append_of_le_length (by omega)]
      have vb1 := vb.up u1
      generalize wa.drop at_ = wd at *
      cases R with
      | nil => simp at hd; omega
      | @shut _ h' f' l' _ vy e5 e6 =>
        obtain ⟨q, S2, c2, hh, ff, ll, d2, J, K⟩ := s_jo (n := n + 1) u1.wf vy vb1 (by omega) (by omega) (by omega) (by omega)
        obtain ⟨k1, k2, k3⟩ := K (by omega)
        rw [bnd_of d2]
        exact ⟨x, q, S2, c + c2, pl, _, rfl, u1.trans J.up, (L.up J.up).mono (by omega), .shut J.tv (by omega) J.lz, by omega⟩
      | «open» vy =>
        obtain ⟨q, S2, c2, hh, ff, ll, d2, J, K⟩ := s_jo (n := n + 1) u1.wf vy vb1 (by omega) (by omega) (by omega) (by omega)
        have k1 := J.c2 rfl
        have k2 := J.h2 rfl
        rw [bnd_of d2]
        exact ⟨x, q, S2, c + c2, pl, _, rfl, u1.trans J.up, (L.up J.up).mono (by omega), .shut J.tv (by omega) J.lz, by omega⟩
    · rw [if_neg c2]
      obtain ⟨x, y, S1, c, pl, pr, d1, u1, L, R, hc⟩ := ih (H := H) wf vb (by omega) (by omega) (show at_ - wa.length ≤ wb.length by omega) (by omega) (by omega)
      rw [bnd_of d1]
      dsimp only
      have u1l := u1.len
      have lle := L.le
      have rle := R.le
      have hd : (wb.take (at_ - wa.length)).length = at_ - wa.length := by rw [List.length_take]; omega
      rw [List.take_append, List.drop_append, List.take_of_length_le (show wa.length ≤ at_ by omega), List.drop_of_length_le (show wa.length ≤ at_ by omega), List.nil_append]
      have va1 := va.up u1
      generalize wb.take (at_ - wa.length) = wd at *
      cases L with
      | nil =>
        rw [List.append_nil]
        rw [bnd_of (jo_zero u1.wf va1 (by omega))]
        refine ⟨a, y, S1, c, _, pr, rfl, u1, .shut va1 (by omega) (Nat.le_refl _), R.mono (by omega), by omega⟩
      | @shut _ h' f' l' _ vx e5 e6 =>
        obtain ⟨q, S2, c2, hh, ff, ll, d2, J, K⟩ := s_jo (n := n + 1) u1.wf va1 vx (by omega) (by omega) (by omega) (by omega)
        obtain ⟨k1, k2, k3⟩ := K (by omega)
        rw [bnd_of d2]
        exact ⟨q, y, S2, c + c2, _, pr, rfl, u1.trans J.up, .shut J.tv (by omega) J.fz, (R.up J.up).mono (by omega), by omega⟩
      | «open» vx =>
        obtain ⟨q, S2, c2, hh, ff, ll, d2, J, K⟩ := s_jo (n := n + 1) u1.wf va1 vx (by omega) (by omega) (by omega) (by omega)
        have k1 := J.c3 rfl
        have k2 := J.h3 rfl
        rw [bnd_of d2]
        exact ⟨q, y, S2, c + c2, _, pr, rfl, u1.trans J.up, .shut J.tv (by omega) J.fz, (R.up J.up).mono (by omega), by omega⟩
end SW
end

section
set_option Elab.async false
set_option linter.all false
set_option maxRecDepth 100000
set_option maxHeartbeats 4000000
/-! Deeds on texts, empty ones too. -/
namespace SW
open PySem L2
/-- the height of a text and one more; 0 for the empty text -/
def hp (S : Sh) (t : Nat) : Nat := if t = 0 then 0 else hgT S t + 1
/-- what a deed tells: a text of these signs -/
structure Gd (S S' : Sh) (c r : Nat) (w : List Nat) : Prop where
  up : Up S S' c
  r1 : r ≤ S'.length
  rd : rd S' r = w
section
variable {S S' : Sh} {t a b r c at_ n : Nat} {w wa wb : List Nat} {x : Str}
theorem htT_hp (S : Sh) (t : Nat) : htT S t = (hp S t : Int) - 1 := by
  cases t with
  | zero => rfl
  | succ n => show ((hgT S (n + 1) : Nat) : Int) = ((if n + 1 = 0 then 0 else hgT S (n + 1) + 1 : Nat) : Int) - 1; rw [if_neg (by omega)]; omega
theorem hp_pos (h : 0 < t) : hp S t = hgT S t + 1 := by unfold hp; rw [if_neg (by omega)]
theorem hp_le (wf : WF S) (h : t ≤ S.length) : hp S t ≤ 86 := by
  unfold hp
  split
  · omega
  · have := wf.high h; omega
theorem hp_up (u : Up S S' c) (h : t ≤ S.length) : hp S' t = hp S t := by
  unfold hp
  rw [hg_pre u.pre h]
theorem Tv.hp {h : Nat} {f l : Str} (v : Tv S t h f l w) : SW.hp S t = h + 1 := by rw [hp_pos v.t0, v.hg]
/-- joined, of any texts -/
theorem s_joT (wf : WF S) (ha : a ≤ S.length) (hb : b ≤ S.length) (hn : 85 ≤ n) (hs : (rd S a).length + (rd S b).length ≤ 1000000000000000000) (room : S.length + 14 * max (hp S a) (hp S b) + 10 < sizeLine) :
    ∃ r S' c, joN (n + 1) a b S = some (r, S') ∧ Gd S S' c r (rd S a ++ rd S b) ∧ c ≤ 14 * max (hp S a) (hp S b) ∧ hp S' r ≤ 3 * max (hp S a) (hp S b) := by
  by_cases a0 : a = 0
  · subst a0
    by_cases b0 : b = 0
    · subst b0
      exact ⟨0, S, 0, jo_zeros, ⟨Up.refl wf, Nat.zero_le _, rfl⟩, by omega, by omega⟩
    · obtain ⟨f, l, v⟩ := Tv.ex wf (show 0 < b by omega) hb
      exact ⟨b, S, 0, jo_zero' wf v (by simpa [rd_zero] using hs), ⟨Up.refl wf, hb, by rw [rd_zero]; rfl⟩, by omega, by omega⟩
  · obtain ⟨f, l, v⟩ := Tv.ex wf (show 0 < a by omega) ha
    by_cases b0 : b = 0
    · subst b0
      exact ⟨a, S, 0, jo_zero wf v (by simpa [rd_zero] using hs), ⟨Up.refl wf, ha, by rw [rd_zero, List.append_nil]⟩, by omega, by omega⟩
    · obtain ⟨f2, l2, v2⟩ := Tv.ex wf (show 0 < b by omega) hb
      have h1 := wf.high ha
      have h2 := wf.high hb
      rw [v.hp, v2.hp] at room ⊢
      obtain ⟨r, S', c, h, f, l, d, J, _⟩ := s_jo (n := n) wf v v2 (by omega) (by omega) hs (by omega)
      have j1 := J.h1
      have j2 := J.c1
      exact ⟨r, S', c, d, ⟨J.up, J.tv.t1, J.tv.rd⟩, by omega, by rw [J.tv.hp]; omega⟩
/-- halves, of any text -/
theorem s_haT (wf : WF S) (ht : t ≤ S.length) (hn : 85 ≤ n) (hat : at_ ≤ (rd S t).length) (room : S.length + 40 * hp S t + 40 < sizeLine) :
    ∃ x y S' c, haN (n + 1) t at_ S = some ((x, y), S') ∧ Gd S S' c x ((rd S t).take at_) ∧ Gd S S' c y ((rd S t).drop at_) ∧ c ≤ 21 * hp S t ∧ hp S' x ≤ hp S t ∧ hp S' y ≤ hp S t := by
  by_cases t0 : t = 0
  · subst t0
    have : at_ = 0 := by simpa [rd_zero] using hat
    subst this
    refine ⟨0, 0, S, 0, by unfold haN; rw [if_pos rfl]; rfl, ⟨Up.refl wf, Nat.zero_le _, rfl⟩, ⟨Up.refl wf, Nat.zero_le _, rfl⟩, by omega, by omega, by omega⟩
  · obtain ⟨f, l, v⟩ := Tv.ex wf (show 0 < t by omega) ht
    have h1 := wf.high ht
    rw [v.hp] at room ⊢
    have hs : (rd S t).length ≤ 1000000000000000000 := by
      rw [wf.len t ht]
      rcases wf.nd (show 0 < t by omega) ht with ⟨x, n⟩ | ⟨a, b, n⟩
      · rw [n.sg]; have := n.ok.h8; omega
      · exact n.most
    obtain ⟨x, y, S', c, pl, pr, d, u, L, R, hc⟩ := s_ha (n := n) (H := hgT S t) wf v (by omega) (by omega) hat hs (by omega)
    have lle := L.le
    have rle := R.le
    have gx : Gd S S' c x ((rd S t).take at_) ∧ hp S' x ≤ hgT S t + 1 := by
      generalize (rd S t).take at_ = w1 at *
      cases L with
      | nil => exact ⟨⟨u, Nat.zero_le _, rfl⟩, by unfold hp; rw [if_pos rfl]; omega⟩
      | shut v a b => exact ⟨⟨u, v.t1, v.rd⟩, by rw [v.hp]; omega⟩
      | «open» v => exact ⟨⟨u, v.t1, v.rd⟩, by rw [v.hp]; omega⟩
    have gy : Gd S S' c y ((rd S t).drop at_) ∧ hp S' y ≤ hgT S t + 1 := by
      generalize (rd S t).drop at_ = w1 at *
      cases R with
      | nil => exact ⟨⟨u, Nat.zero_le _, rfl⟩, by unfold hp; rw [if_pos rfl]; omega⟩
      | shut v a b => exact ⟨⟨u, v.t1, v.rd⟩, by rw [v.hp]; omega⟩
      | «open» v => exact ⟨⟨u, v.t1, v.rd⟩, by rw [v.hp]; omega⟩
    exact ⟨x, y, S', c, d, gx.1, gy.1, by omega, gx.2, gy.2⟩
theorem sgN_T (wf : WF S) (h : t ≤ S.length) : sgN t S = some ((rd S t).length, S) := by unfold sgN; rw [look_of h, ← wf.len t h]
theorem wsN_T (wf : WF S) (h : t ≤ S.length) {b e : Nat} (h1 : b ≤ e) (h2 : e ≤ (rd S t).length) : wsN t b e S = some ((), S) := by
  unfold wsN
  rw [bnd_of (sgN_T wf h), if_pos ⟨h1, h2⟩]
  rfl
theorem Gd.hp_le {c r : Nat} {w : List Nat} (g : Gd S S' c r w) : hp S' r ≤ 86 := SW.hp_le g.up.wf g.r1
theorem s_ct (wf : WF S) (ht : t ≤ S.length) (hn : 85 ≤ n) (hat : at_ ≤ (rd S t).length) (room : S.length + 4000 < sizeLine) :
    ∃ x y S' c, ctN (n + 1) t at_ S = some ((x, y), S') ∧ Gd S S' c x ((rd S t).take at_) ∧ Gd S S' c y ((rd S t).drop at_) ∧ c ≤ 64 * hp S t := by
  have := hp_le wf ht
  obtain ⟨x, y, S', c, d, gx, gy, hc, _, _⟩ := s_haT (n := n) wf ht hn hat (by omega)
  refine ⟨x, y, S', c, ?_, gx, gy, by omega⟩
  unfold ctN
  rw [bnd_of (sgN_T wf ht), bnd_of (wsN_T wf ht hat (Nat.le_refl _))]
  exact d
theorem rd_up {c : Nat} (u : Up S S' c) (h : t ≤ S.length) : rd S' t = rd S t := rd_pre u.pre h
theorem s_pi {o : Nat} (wf : WF S) (ht : t ≤ S.length) (ho : o ≤ S.length) (hn : 85 ≤ n) (hat : at_ ≤ (rd S t).length) (hs : (rd S t).length + (rd S o).length ≤ 1000000000000000000) (room : S.length + 8000 < sizeLine) :
    ∃ r S' c, piN (n + 1) t at_ o S = some (r, S') ∧ Gd S S' c r ((rd S t).take at_ ++ rd S o ++ (rd S t).drop at_) ∧ c ≤ 200 * max (hp S t) (hp S o) := by
  have h1 := hp_le wf ht
  have h2 := hp_le wf ho
  obtain ⟨x, y, S1, c1, d1, gx, gy, hc1, hx, hy⟩ := s_haT (n := n) wf ht hn hat (by omega)
  have l1 := gx.up.len
  have l1' := gx.up.ge
  have ho1 := hp_up gx.up ho
  have e1 : (rd S1 x).length = at_ := by rw [gx.rd, List.length_take]; omega
  have e2 : (rd S1 y).length = (rd S t).length - at_ := by rw [gy.rd, List.length_drop]
  have e3 := rd_up gx.up ho
  obtain ⟨z, S2, c2, d2, gz, hc2, hz⟩ := s_joT (n := n + 1) gx.up.wf gx.r1 (show o ≤ S1.length by omega) (by omega) (by rw [e1, e3]; omega) (by omega)
  have l2 := gz.up.len
  have l2' := gz.up.ge
  have hy2 := hp_up gz.up gy.r1
  have e4 := rd_up gz.up gy.r1
  obtain ⟨r, S3, c3, d3, gr, hc3, hr⟩ := s_joT (n := n + 3) gz.up.wf gz.r1 (show y ≤ S2.length by have := gy.r1; omega) (by omega) (by rw [gz.rd, e4, List.length_append, e1, e2, e3]; omega) (by omega)
  refine ⟨r, S3, c1 + c2 + c3, ?_, ⟨(gx.up.trans gz.up).trans gr.up, gr.r1, ?_⟩, by omega⟩
  · unfold piN
    rw [bnd_of (sgN_T wf ht), bnd_of (sgN_T wf ho), bnd_of (wsN_T wf ht hat (Nat.le_refl _)), if_neg (by omega), bnd_of d1]
    dsimp only
    rw [bnd_of d2]
    exact d3
  · rw [gr.rd, gz.rd, e4, gx.rd, gy.rd, e3]
theorem s_tk {b e : Nat} (wf : WF S) (ht : t ≤ S.length) (hn : 85 ≤ n) (hb : b ≤ e) (he : e ≤ (rd S t).length) (room : S.length + 8000 < sizeLine) :
    ∃ r S' c, tkN (n + 1) t b e S = some (r, S') ∧ Gd S S' c r ((rd S t).take b ++ (rd S t).drop e) ∧ c ≤ 200 * hp S t := by
  have h1 := hp_le wf ht
  obtain ⟨x, y, S1, c1, d1, gx, gy, hc1, hx, hy⟩ := s_haT (n := n) wf ht hn (show b ≤ _ by omega) (by omega)
  have l1 := gx.up.len
  have l1' := gx.up.ge
  have ht1 := hp_up gx.up ht
  have e3 := rd_up gx.up ht
  obtain ⟨x2, y2, S2, c2, d2, gx2, gy2, hc2, hx2, hy2⟩ := s_haT (n := n) (at_ := e) gx.up.wf (show t ≤ S1.length by omega) hn (by rw [e3]; exact he) (by omega)
  have l2 := gx2.up.len
  have l2' := gx2.up.ge
  have e4 := rd_up gx2.up gx.r1
  have hx3 := hp_up gx2.up gx.r1
  have hs : (rd S t).length ≤ 1000000000000000000 := by
    by_cases t0 : t = 0
    · subst t0; rw [rd_zero]; simp
    rw [wf.len t ht]
    rcases wf.nd (show 0 < t by omega) ht with ⟨x, n⟩ | ⟨a, b, n⟩
    · rw [n.sg]; have := n.ok.h8; omega
    · exact n.most
  have e5 : (rd S2 x).length + (rd S2 y2).length ≤ 1000000000000000000 := by
    rw [e4, gx.rd, gy2.rd, e3, List.length_take, List.length_drop]; omega
  obtain ⟨r, S3, c3, d3, gr, hc3, hr⟩ := s_joT (n := n + 1) gx2.up.wf (show x ≤ S2.length by have := gx.r1; omega) gy2.r1 (by omega) e5 (by omega)
  refine ⟨r, S3, c1 + c2 + c3, ?_, ⟨(gx.up.trans gx2.up).trans gr.up, gr.r1, ?_⟩, by omega⟩
  · unfold tkN
    rw [bnd_of (wsN_T wf ht hb he), bnd_of d1, bnd_of d2]
    exact d3
  · rw [gr.rd, e4, gx.rd, gy2.rd, e3]
theorem s_kp {b e : Nat} (wf : WF S) (ht : t ≤ S.length) (hn : 85 ≤ n) (hb : b ≤ e) (he : e ≤ (rd S t).length) (room : S.length + 8000 < sizeLine) :
    ∃ r S' c, kpN (n + 1) t b e S = some (r, S') ∧ Gd S S' c r (((rd S t).take e).drop b) ∧ c ≤ 200 * hp S t := by
  have h1 := hp_le wf ht
  obtain ⟨x, y, S1, c1, d1, gx, gy, hc1, hx, hy⟩ := s_haT (n := n) wf ht hn he (by omega)
  have l1 := gx.up.len
  obtain ⟨x2, y2, S2, c2, d2, gx2, gy2, hc2, hx2, hy2⟩ := s_haT (n := n) (at_ := b) gx.up.wf gx.r1 hn (by rw [gx.rd, List.length_take]; omega) (by omega)
  refine ⟨y2, S2, c1 + c2, ?_, ⟨gx.up.trans gx2.up, gy2.r1, by rw [gy2.rd, gx.rd]⟩, by omega⟩
  unfold kpN
  rw [bnd_of (wsN_T wf ht hb he), bnd_of d1, bnd_of d2]
  rfl
end
end SW
end

section
set_option Elab.async false
set_option linter.all false
set_option maxRecDepth 100000
set_option maxHeartbeats 4000000
/-! Built, repeated: what they do. -/
namespace SW
open PySem L2
def flT (ps : List (Nat × Str)) : List Nat := (ps.map fun p => p.2.cps.toList).flatten
/-- a row of leaves, all but the last of eight signs -/
structure RowL (S : Sh) (ps : List (Nat × Str)) : Prop where
  nd : ∀ p ∈ ps, NdL S p.1 p.2
  z8 : ∀ p ∈ ps.dropLast, sz p.2 = 8
theorem flT_app (a b : List (Nat × Str)) : flT (a ++ b) = flT a ++ flT b := by unfold flT; simp
theorem pow_lt2 {a b : Nat} (h : 2 ^ a < 2 * 2 ^ b) : a ≤ b := by
  have : (2 : Nat) ^ a < 2 ^ (b + 1) := by rw [Nat.pow_succ]; omega
  have := (Nat.pow_lt_pow_iff_right (a := 2) (by omega)).mp this
  omega
theorem pow_lt4 {a b : Nat} (h : 2 ^ a < 2 * 2 ^ b + 2) : a ≤ b + 1 := by
  have h1 : 1 ≤ 2 ^ b := Nat.one_le_two_pow
  have : (2 : Nat) ^ a < 2 ^ (b + 2) := by rw [Nat.pow_succ, Nat.pow_succ]; omega
  have := (Nat.pow_lt_pow_iff_right (a := 2) (by omega)).mp this
  omega
theorem bal {j k h1 h2 : Nat} (h0 : 1 ≤ j) (hj : k = j ∨ k = j + 1) (a1 : j ≤ 2 ^ h1) (b1 : 2 ^ h1 < 2 * j) (a2 : k ≤ 2 ^ h2) (b2 : 2 ^ h2 < 2 * k) :
    h1 ≤ h2 + 1 ∧ h2 ≤ h1 + 1 ∧ j + k ≤ 2 ^ (1 + max h1 h2) ∧ 2 ^ (1 + max h1 h2) < 2 * (j + k) := by
  have c1 : h1 ≤ h2 := pow_lt2 (by omega)
  have c2 : h2 ≤ h1 + 1 := pow_lt4 (by omega)
  refine ⟨by omega, c2, ?_, ?_⟩
  · rw [Nat.max_eq_right c1, Nat.add_comm 1, Nat.pow_succ]
    have := Nat.pow_le_pow_right (n := 2) (by omega) c1
    omega
  · rw [Nat.max_eq_right c1, Nat.add_comm 1, Nat.pow_succ]
    rcases hj with rfl | rfl
    · omega
    · cases h2 with
      | zero => simp; omega
      | succ m =>
        rw [Nat.pow_succ] at b2 ⊢
        omega
theorem RowL.up {S S' : Sh} {ps : List (Nat × Str)} {c : Nat} (u : Up S S' c) (R : RowL S ps) : RowL S' ps := ⟨fun p h => (R.nd p h).pre u.pre, R.z8⟩
theorem s_bf : ∀ {n : Nat} {S : Sh} {ps : List (Nat × Str)} (wf : WF S) (R : RowL S ps) (h0 : 1 ≤ ps.length) (hn : ps.length ≤ 2 ^ n) (hs : (flT ps).length ≤ 1000000000000000000) (room : S.length + ps.length + 2 < sizeLine),
    ∃ r S' h f l, bfN (n + 1) (ps.map (·.1)) S = some (r, S') ∧ Up S S' (ps.length - 1) ∧ Tv S' r h f l (flT ps) ∧ ps.length ≤ 2 ^ h ∧ 2 ^ h < 2 * ps.length ∧ ((∀ p ∈ ps, sz p.2 = 8) → sz l = 8) := by
  intro n
  induction n with
  | zero =>
    intro S ps wf R h0 hn hs room
    match ps, h0, hn with
    | [p], _, _ =>
      have nd := R.nd p (by simp)
      refine ⟨p.1, S, 0, p.2, p.2, ?_, (Up.refl wf).mono (by omega), ?_, by simp, by simp, fun h => h p (by simp)⟩
      · unfold bfN; rfl
      · have := nd.tv; simpa [flT] using this
  | succ n ih =>
    intro S ps wf R h0 hn hs room
    by_cases h1 : ps.length = 1
    · match ps, h1 with
      | [p], _ =>
        have nd := R.nd p (by simp)
        refine ⟨p.1, S, 0, p.2, p.2, ?_, (Up.refl wf).mono (by omega), ?_, by simp, by simp, fun h => h p (by simp)⟩
        · unfold bfN; rfl
        · have := nd.tv; simpa [flT] using this
    have hpow : (2 : Nat) ^ (n + 1) = 2 * 2 ^ n := by rw [Nat.pow_succ]; omega
    have hl1 : (ps.take (ps.length / 2)).length = ps.length / 2 := by rw [List.length_take]; omega
    have hl2 : (ps.drop (ps.length / 2)).length = ps.length - ps.length / 2 := List.length_drop
    have hcat : flT ps = flT (ps.take (ps.length / 2)) ++ flT (ps.drop (ps.length / 2)) := by rw [← flT_app, List.take_append_drop]
    have hlen : (flT (ps.take (ps.length / 2))).length + (flT (ps.drop (ps.length / 2))).length = (flT ps).length := by rw [hcat, List.length_append]
    have ht8 : ∀ p ∈ ps.take (ps.length / 2), sz p.2 = 8 := by
      intro p hp
      refine R.z8 p ?_
      rw [List.dropLast_eq_take]
      exact (List.take_sublist_take_left (by omega)).subset hp
    have R1 : RowL S (ps.take (ps.length / 2)) := ⟨fun p hp => R.nd p (List.mem_of_mem_take hp), fun p hp => ht8 p ((List.dropLast_sublist _).subset hp)⟩
    have R2 : RowL S (ps.drop (ps.length / 2)) := ⟨fun p hp => R.nd p (List.mem_of_mem_drop hp), fun p hp => R.z8 p (by
      rw [List.dropLast_eq_take] at hp ⊢
      rw [List.length_drop, List.take_drop] at hp
      have := List.mem_of_mem_drop hp
      have e : ps.length / 2 + (ps.length - ps.length / 2 - 1) = ps.length - 1 := by omega
      rw [e] at this
      exact this)⟩
    obtain ⟨a, S1, ha, fa, la, d1, u1, va, p1, p2, p3⟩ := ih wf R1 (by omega) (by omega) (by omega) (by omega)
    have := u1.len
    obtain ⟨b, S2, hb, fb, lb, d2, u2, vb, q1, q2, q3⟩ := ih u1.wf (R2.up u1) (by omega) (by omega) (by omega) (by omega)
    have := u2.len
    have hB := bal (h1 := ha) (h2 := hb) (j := ps.length / 2) (k := ps.length - ps.length / 2) (by omega) (by omega) (by omega) (by omega) (by omega) (by omega)
    obtain ⟨x1, x2, x3, x4⟩ := hB
    have cl : 8 < sz la + sz fb := by
      have := (vb.fok u2.wf).h1
      have := p3 ht8
      show 8 < sz la + fb.cps.size
      omega
    obtain ⟨r, S3, d3, u3, vr⟩ := f_fork u2.wf (va.up u2) vb cl x1 x2 (by omega) (by omega)
    have e4 : ps.length / 2 + (ps.length - ps.length / 2) = ps.length := by omega
    rw [e4] at x3 x4
    refine ⟨r, S3, _, fa, lb, ?_, ((u1.trans u2).trans u3).mono (by omega), by rw [hcat]; exact vr, x3, x4, fun h => q3 fun p hp => h p (List.mem_of_mem_drop hp)⟩
    unfold bfN
    rw [List.length_map, if_neg (by omega), if_neg h1, ← List.map_take, ← List.map_drop, bnd_of d1, bnd_of d2]
    exact d3
section
variable {S S' : Sh} {t a b r c at_ n : Nat} {w wa wb : List Nat} {x : Str}
theorem s_lv (wf : WF S) (pl : plainB x = true) : ∀ i, 8 * i < sz x + 8 → S.length + i + 2 < sizeLine → ∃ ps S', lvN x i S = some (ps.map (·.1), S') ∧ Up S S' i ∧ RowL S' ps ∧ ps.length = i ∧ flT ps = x.cps.toList.take (8 * i) ∧ (8 * i ≤ sz x → ∀ p ∈ ps, sz p.2 = 8) := by
  intro i
  induction i with
  | zero => intro _ _; exact ⟨[], S, rfl, Up.refl wf, ⟨fun p h => by simp at h, fun p h => by simp at h⟩, rfl, rfl, fun _ p h => by simp at h⟩
  | succ i ih =>
    intro hi room
    obtain ⟨ps, S1, d1, u1, R, hl, hf, h8⟩ := ih (by omega) (by omega)
    have := u1.len
    have hle : 8 * i ≤ x.cps.size := by show 8 * i ≤ sz x; omega
    have e : cutS x (some ((8 * i : Nat) : Int)) (some ((8 * i + 8 : Nat) : Int)) = ⟨((x.cps.toList.drop (8 * i)).take 8).toArray⟩ := by
      rw [cutS_ab hle]
      have : 8 * i + 8 - 8 * i = 8 := by omega
      rw [this]
    have hcl : ((x.cps.toList.drop (8 * i)).take 8).length = min 8 (sz x - 8 * i) := by simp
    have ok : LfOk ⟨((x.cps.toList.drop (8 * i)).take 8).toArray⟩ := by
      refine ⟨?_, ?_, ?_⟩
      · unfold plainB at *
        rw [List.all_eq_true] at *
        intro c hc
        exact pl c (List.mem_of_mem_drop (List.mem_of_mem_take (by simpa using hc)))
      · show 1 ≤ (((x.cps.toList.drop (8 * i)).take 8).toArray).size
        rw [List.size_toArray, hcl]; omega
      · show (((x.cps.toList.drop (8 * i)).take 8).toArray).size ≤ 8
        rw [List.size_toArray, hcl]; omega
    obtain ⟨m, S2, d2, u2, nm⟩ := s_leaf u1.wf ok (by omega)
    have hz := h8 (by omega)
    refine ⟨ps ++ [(m, ⟨((x.cps.toList.drop (8 * i)).take 8).toArray⟩)], S2, ?_, u1.trans u2, ⟨?_, ?_⟩, by simp [hl], ?_, ?_⟩
    · unfold lvN
      rw [bnd_of d1, e, bnd_of d2]
      simp [ret]
    · intro p hp
      rcases List.mem_append.mp hp with h | h
      · exact (R.nd p h).pre u2.pre
      · simp at h; subst h; exact nm
    · intro p hp
      rw [List.dropLast_concat] at hp
      exact hz p hp
    · rw [flT_app, hf]
      have e9 : 8 * (i + 1) = 8 * i + 8 := by omega
      rw [e9, List.take_add]
      simp [flT]
    · intro h p hp
      rcases List.mem_append.mp hp with h' | h'
      · exact hz p h'
      · simp at h'; subst h'
        show (((x.cps.toList.drop (8 * i)).take 8).toArray).size = 8
        rw [List.size_toArray, hcl]; omega
theorem s_bu (wf : WF S) (pl : plainB x = true) (hx : sz x ≤ 10000) (room : S.length + 3000 < sizeLine) (hn : (sz x + 7) / 8 ≤ 2 ^ n) : ∃ r S' c, buN (n + 1) x S = some (r, S') ∧ Gd S S' c r x.cps.toList ∧ c ≤ 2 * ((sz x + 7) / 8) := by
  have e0 : ¬ (plainB x = false ∨ 10000 < x.cps.size) := by
    rintro (h | h)
    · rw [pl] at h; cases h
    · exact absurd hx (Nat.not_le.mpr h)
  unfold buN
  rw [if_neg e0]
  by_cases h0 : x.cps.size = 0
  · rw [if_pos h0]
    have e : x.cps.toList = [] := List.eq_nil_of_length_eq_zero (by simpa using h0)
    exact ⟨0, S, 0, rfl, ⟨Up.refl wf, Nat.zero_le _, by rw [e]; rfl⟩, by omega⟩
  rw [if_neg h0]
  have h0' : sz x ≠ 0 := h0
  obtain ⟨ps, S1, d1, u1, R, hl, hf, h8⟩ := s_lv wf pl ((sz x + 7) / 8) (by omega) (by omega)
  have := u1.len
  have hf2 : flT ps = x.cps.toList := by rw [hf]; exact List.take_of_length_le (by simp; show sz x ≤ _; omega)
  have hl3 : (flT ps).length = sz x := by rw [hf2]; simp
  obtain ⟨r, S2, h, f, l, d2, u2, v, _⟩ := s_bf (n := n) u1.wf R (by omega) (by omega) (by omega) (by omega)
  refine ⟨r, S2, _, ?_, ⟨u1.trans u2, v.t1, by rw [v.rd, hf2]⟩, by omega⟩
  rw [bnd_of d1]
  exact d2
def rep (m : Nat) (w : List Nat) : List Nat := (List.replicate m w).flatten
theorem rep_two (m : Nat) (w : List Nat) : rep (2 * m) w = rep m (w ++ w) := by
  unfold rep
  induction m with
  | zero => rfl
  | succ m ih =>
    have : 2 * (m + 1) = 2 * m + 1 + 1 := by omega
    rw [this, List.replicate_succ, List.replicate_succ, List.replicate_succ, List.flatten_cons, List.flatten_cons, List.flatten_cons, ih, List.append_assoc]
theorem rep_succ (m : Nat) (w : List Nat) : rep (m + 1) w = w ++ rep m w := by
  unfold rep; rw [List.replicate_succ, List.flatten_cons]
theorem rep_len (m : Nat) (w : List Nat) : (rep m w).length = w.length * m := by
  unfold rep
  induction m with
  | zero => simp
  | succ m ih => rw [List.replicate_succ, List.flatten_cons, List.length_append, ih, Nat.mul_succ]; omega
theorem rep_add (a b : Nat) (w : List Nat) : rep (a + b) w = rep a w ++ rep b w := by
  induction a with
  | zero => rw [Nat.zero_add]; rfl
  | succ a ih =>
    have : a + 1 + b = (a + b) + 1 := by omega
    rw [this, rep_succ, rep_succ, ih, List.append_assoc]
theorem s_rl (hn : 85 ≤ n) : ∀ {f L : Nat} {S : Sh} {fo tw m : Nat} (wf : WF S) (h1 : fo ≤ S.length) (h2 : tw ≤ S.length) (hm : m < 2 ^ L) (hf : L < f) (hs : (rd S fo).length + (rd S tw).length * m ≤ 1000000000000000000) (room : S.length + 3000 * L + 3000 < sizeLine),
    ∃ r S' c, rlN (n + 1) f fo tw m S = some (r, S') ∧ Gd S S' c r (rd S fo ++ rep m (rd S tw)) ∧ c ≤ 3000 * L := by
  intro f
  induction f with
  | zero => intro L S fo tw m wf h1 h2 hm hf hs room; omega
  | succ f ih =>
    intro L S fo tw m wf h1 h2 hm hf hs room
    unfold rlN
    by_cases m0 : m = 0
    · rw [if_pos m0]
      subst m0
      exact ⟨fo, S, 0, rfl, ⟨Up.refl wf, h1, by unfold rep; simp⟩, by omega⟩
    rw [if_neg m0]
    cases L with
    | zero => simp at hm; omega
    | succ L =>
      have hm2 : m / 2 < 2 ^ L := by rw [Nat.pow_succ] at hm; omega
      have k1 := hp_le wf h1
      have k2 := hp_le wf h2
      have hmul : (rd S tw).length * m = (rd S tw).length * (m % 2) + (rd S tw).length * 2 * (m / 2) := by
        rw [Nat.mul_assoc, ← Nat.mul_add]; congr 1; omega
      -- the first step
      have st1 : ∃ x S1 c1, (if m % 2 = 1 then joN (n + 1) fo tw else ret fo) S = some (x, S1) ∧ Gd S S1 c1 x (rd S fo ++ rep (m % 2) (rd S tw)) ∧ c1 ≤ 1300 := by
        by_cases e : m % 2 = 1
        · rw [if_pos e]
          rw [e, Nat.mul_one] at hmul
          obtain ⟨x, S1, c1, d1, g1, hc, _⟩ := s_joT (n := n) wf h1 h2 hn (by omega) (by omega)
          refine ⟨x, S1, c1, d1, ?_, by omega⟩
          rw [e, rep_succ]
          simpa [rep] using g1
        · rw [if_neg e]
          have e2 : m % 2 = 0 := by omega
          exact ⟨fo, S, 0, rfl, ⟨Up.refl wf, h1, by rw [e2]; simp [rep]⟩, by omega⟩
      obtain ⟨x, S1, c1, d1, g1, hc1⟩ := st1
      rw [bnd_of d1]
      have l1 := g1.up.len
      have l1' := g1.up.ge
      have etw := rd_up g1.up h2
      have k3 := hp_up g1.up h2
      have st2 : ∃ y S2 c2, (if 0 < m / 2 then joN (n + 1) tw tw else ret tw) S1 = some (y, S2) ∧ Up S1 S2 c2 ∧ y ≤ S2.length ∧ rep (m / 2) (rd S2 y) = rep (2 * (m / 2)) (rd S tw) ∧ (rd S2 y).length * (m / 2) ≤ (rd S tw).length * 2 * (m / 2) ∧ c2 ≤ 1300 := by
        by_cases e : 0 < m / 2
        · rw [if_pos e]
          have : (rd S tw).length * 2 ≤ (rd S tw).length * 2 * (m / 2) := Nat.le_mul_of_pos_right _ e
          obtain ⟨y, S2, c2, d2, g2, hc, _⟩ := s_joT (n := n) g1.up.wf (show tw ≤ S1.length by omega) (show tw ≤ S1.length by omega) hn (by rw [etw]; omega) (by omega)
          refine ⟨y, S2, c2, d2, g2.up, g2.r1, by rw [g2.rd, etw, rep_two], ?_, by omega⟩
          rw [g2.rd, etw, List.length_append, ← Nat.mul_two]
          exact Nat.le_refl _
        · rw [if_neg e]
          have e2 : m / 2 = 0 := by omega
          exact ⟨tw, S1, 0, rfl, Up.refl g1.up.wf, by omega, by rw [e2]; rfl, by rw [e2]; simp, by omega⟩
      obtain ⟨y, S2, c2, d2, u2, hy, er, hl, hc2⟩ := st2
      rw [bnd_of d2]
      have l2 := u2.len
      have l2' := u2.ge
      have ex := rd_up u2 g1.r1
      have lx : (rd S2 x).length = (rd S fo).length + (rd S tw).length * (m % 2) := by rw [ex, g1.rd, List.length_append, rep_len]
      obtain ⟨r, S3, c3, d3, g3, hc3⟩ := ih (L := L) u2.wf (show x ≤ S2.length by have := g1.r1; omega) hy hm2 (by omega) (by omega) (by omega)
      refine ⟨r, S3, c1 + c2 + c3, d3, ⟨(g1.up.trans u2).trans g3.up, g3.r1, ?_⟩, by omega⟩
      rw [g3.rd, ex, g1.rd, er, List.append_assoc]
      congr 1
      have : rep m (rd S tw) = rep (m % 2 + 2 * (m / 2)) (rd S tw) := by congr 1; omega
      rw [this, rep_add]
theorem s_re {m L : Nat} (wf : WF S) (ht : t ≤ S.length) (hn : 85 ≤ n) (hm : m < 2 ^ L) (hL : L ≤ m) (hs : (rd S t).length * m ≤ 1000000000000000000) (room : S.length + 3000 * L + 3000 < sizeLine) :
    ∃ r S' c, reN (n + 1) t m S = some (r, S') ∧ Gd S S' c r (rep m (rd S t)) ∧ c ≤ 3000 * L := by
  unfold reN
  rw [bnd_of (sgN_T wf ht), if_neg (by omega)]
  by_cases t0 : t = 0
  · rw [if_pos t0]
    subst t0
    refine ⟨0, S, 0, rfl, ⟨Up.refl wf, Nat.zero_le _, ?_⟩, by omega⟩
    rw [rd_zero]
    have := rep_len m []
    simp at this
    exact this.symm
  · rw [if_neg t0]
    obtain ⟨r, S', c, d, g, hc⟩ := s_rl hn (f := m + 1) (L := L) wf (Nat.zero_le _) ht hm (by omega) (by rw [rd_zero]; simpa using hs) room
    rw [rd_zero, List.nil_append] at g
    exact ⟨r, S', c, d, g, hc⟩
end
end SW
end

section
set_option Elab.async false
set_option linter.all false
set_option maxRecDepth 100000
set_option maxHeartbeats 4000000
/-! == of flat lists and tuples. -/
namespace SW
open PySem L2
def toD : V → PyData
  | .bl b => .bool b
  | .int i => .int i
  | .str x => .str x
  | _ => .none
def okD : V → Bool
  | .non | .bl _ | .int _ => true
  | .str x => (PyData.str x).canLay0
  | _ => false
theorem dg_flat {kl : Addr → List V → Prop} {g : G} : ∀ {v : V}, okD v = true → Dg kl g v (toD v)
  | .non, _ => .non
  | .bl b, _ => .bl b
  | .int i, _ => .int i
  | .str x, _ => .str x
  | .byt _, h => by cases h
  | .flt _, h => by cases h
  | .ref _, h => by cases h
  | .ty _, h => by cases h
theorem dg_flats {kl : Addr → List V → Prop} {g : G} : ∀ {xs : List V}, xs.all okD = true → DgAll kl g xs (xs.map toD)
  | [], _ => .nil
  | x :: r, h => by
    rw [List.all_cons, Bool.and_eq_true] at h
    exact .cons (dg_flat h.1) (dg_flats h.2)
theorem lay_flat : ∀ {v : V}, okD v = true → (toD v).canLay0 = true ∧ (toD v).depth = 0
  | .non, _ => ⟨by simp [toD, PyData.canLay0], by simp [toD, PyData.depth]⟩
  | .bl b, _ => ⟨by simp [toD, PyData.canLay0], by simp [toD, PyData.depth]⟩
  | .int i, _ => ⟨by simp [toD, PyData.canLay0], by simp [toD, PyData.depth]⟩
  | .str x, h => ⟨h, by simp [toD, PyData.depth]⟩
  | .byt _, h => by cases h
  | .flt _, h => by cases h
  | .ref _, h => by cases h
  | .ty _, h => by cases h
theorem lay_flats : ∀ {xs : List V}, xs.all okD = true → PyData.canLayAll0 (xs.map toD) = true ∧ PyData.depthAll (xs.map toD) = 0
  | [], _ => ⟨by simp [PyData.canLayAll0], by simp [PyData.depthAll]⟩
  | x :: r, h => by
    rw [List.all_cons, Bool.and_eq_true] at h
    obtain ⟨h1, h2⟩ := lay_flat h.1
    obtain ⟨h3, h4⟩ := lay_flats h.2
    refine ⟨?_, ?_⟩
    · rw [List.map_cons]; unfold PyData.canLayAll0; rw [h1, h3]; rfl
    · rw [List.map_cons]; unfold PyData.depthAll; rw [h2, h4]; rfl
theorem shL {xs : List V} (h : xs.all okD = true) : SeqAt.shaped (.list (xs.map toD)) = true ∧ SeqAt.shaped (.tuple (xs.map toD)) = true := by
  obtain ⟨h1, h2⟩ := lay_flats h
  constructor <;> (unfold SeqAt.shaped PyData.canLay0 PyData.depth; rw [h1, h2]; rfl)
def eqL (xs ys : List V) : Bool := PyData.eqvAll (xs.map toD) (ys.map toD)
section
variable {kl : Addr → List V → Prop} {g : G} {QB : Bool → G → Prop} {p q : Addr} {xs ys : List V}
theorem eq_ll (h1 : g p = some (.lst xs)) (h2 : g q = some (.lst ys)) (o1 : xs.all okD = true) (o2 : ys.all okD = true) (hq : QB (eqL xs ys) g) : eqV' kl (.ref p) (.ref q) g QB :=
  ⟨_, _, .lst (.inl h1) (dg_flats o1), .lst (.inl h2) (dg_flats o2), (shL o1).1, (shL o2).1, by unfold PyData.eqv; exact hq⟩
theorem eq_tt (h1 : g p = some (.tup xs)) (h2 : g q = some (.tup ys)) (o1 : xs.all okD = true) (o2 : ys.all okD = true) (hq : QB (eqL xs ys) g) : eqV' kl (.ref p) (.ref q) g QB :=
  ⟨_, _, .tup h1 (dg_flats o1), .tup h2 (dg_flats o2), (shL o1).2, (shL o2).2, by unfold PyData.eqv; exact hq⟩
theorem ne_ll (h1 : g p = some (.lst xs)) (h2 : g q = some (.lst ys)) (o1 : xs.all okD = true) (o2 : ys.all okD = true) (hq : QB (!eqL xs ys) g) : cmpV kl .NotEq (.ref p) (.ref q) g QB := eq_ll (QB := fun b g' => QB (!b) g') h1 h2 o1 o2 hq
theorem ne_tt (h1 : g p = some (.tup xs)) (h2 : g q = some (.tup ys)) (o1 : xs.all okD = true) (o2 : ys.all okD = true) (hq : QB (!eqL xs ys) g) : cmpV kl .NotEq (.ref p) (.ref q) g QB := eq_tt (QB := fun b g' => QB (!b) g') h1 h2 o1 o2 hq
theorem eq_ll' (h1 : g p = some (.lst xs)) (h2 : g q = some (.lst ys)) (o1 : xs.all okD = true) (o2 : ys.all okD = true) (hq : QB (eqL xs ys) g) : cmpV kl .Eq (.ref p) (.ref q) g QB := .inl (eq_ll h1 h2 o1 o2 hq)
theorem eq_tt' (h1 : g p = some (.tup xs)) (h2 : g q = some (.tup ys)) (o1 : xs.all okD = true) (o2 : ys.all okD = true) (hq : QB (eqL xs ys) g) : cmpV kl .Eq (.ref p) (.ref q) g QB := .inl (eq_tt h1 h2 o1 o2 hq)
end
theorem eq_len {kl : Addr → List V → Prop} {g : G} {QB : Bool → G → Prop} {p q : Addr} {xs ys : List V} (h1 : g p = some (.lst xs)) (h2 : g q = some (.lst ys)) (h : xs.length ≠ ys.length) (hq : QB false g) : cmpV kl .Eq (.ref p) (.ref q) g QB :=
  .inr ⟨p, q, xs, ys, rfl, rfl, h1, h2, h, hq⟩
theorem eqL_nil {x : V} {xs : List V} : eqL (x :: xs) [] = false := by unfold eqL; simp [PyData.eqvAll]
theorem eqL_nn : eqL [] [] = true := by unfold eqL; simp [PyData.eqvAll]
theorem eqL_refl {xs : List V} (h : xs.all okD = true) : eqL xs xs = true := by
  have := SeqAt.eqv_refl (.list (xs.map toD)) (by unfold PyData.canLay0; exact (lay_flats h).1)
  unfold PyData.eqv at this
  exact this
theorem ints_ok (ns : List Nat) : (ns.map nV).all okD = true := by
  rw [List.all_map, List.all_eq_true]
  intro x _
  rfl
theorem str_okD {x : Str} (h : plainB x = true) : okD (.str x) = true := by
  show (PyData.str x).canLay0 = true
  unfold PyData.canLay0 PyData.strOk
  rw [← Array.all_toList, List.all_eq_true]
  unfold plainB at h
  rw [List.all_eq_true] at h
  intro c hc
  have := h c hc
  simp only [Bool.or_eq_true, Bool.and_eq_true, decide_eq_true_eq] at this
  exact decide_eq_true (by omega)
theorem eqL_ne {x y : V} {xs ys : List V} (h : PyData.eqv (toD x) (toD y) = false) : eqL (x :: xs) (y :: ys) = false := by
  unfold eqL; simp [PyData.eqvAll, h]
end SW
end

section
set_option Elab.async false
set_option linter.all false
set_option maxRecDepth 100000
set_option maxHeartbeats 4000000
/-! Small things for all laws. -/
namespace SW
open PySem L2
set_option synthInstance.maxHeartbeats 200000
set_option synthInstance.maxSize 100000
theorem log_lt {n k : Nat} (h : n < 2 ^ k) (hk : 0 < k) : n.log2 < k := by
  by_cases h0 : n = 0
  · subst h0; simpa using hk
  · exact (Nat.log2_lt h0).mpr h
theorem cmulw {i j : Int} (h : i.natAbs < 2 ^ 20000) (h' : j.natAbs < 2 ^ 20000) : CMulW i j := by
  unfold CMulW
  have h1 := log_lt h (by omega)
  have h2 := log_lt h' (by omega)
  omega
theorem nat_of {x : Int} (h : 0 ≤ x) : ∃ n : Nat, x = (n : Int) := Int.eq_ofNat_of_zero_le h
theorem atI_nat {α : Type} {xs : List α} {i : Nat} (h : i < xs.length) : atI xs (i : Int) = some xs[i] := by
  unfold atI ixN
  rw [if_pos (by omega), if_pos (by omega)]
  simp [h]
def strT (x : List Nat) : Str := ⟨x.toArray⟩
theorem strT_tl (x : Str) : strT x.cps.toList = x := by unfold strT; rfl
theorem tl_strT (x : List Nat) : (strT x).cps.toList = x := by unfold strT; simp
theorem strT_app (a b : List Nat) : strT (a ++ b) = strT a ++ strT b := by
  show (⟨(a ++ b).toArray⟩ : Str) = ⟨a.toArray ++ b.toArray⟩
  simp
theorem strT_nil : strT [] = Str.ofString "" := by kernel_rfl
theorem strT_len (x : List Nat) : (strT x).length = x.length := by show (x.toArray).size = _; simp
theorem sz_strT (x : List Nat) : sz (strT x) = x.length := strT_len x
theorem strT_inj {x y : List Nat} (h : strT x = strT y) : x = y := by
  have := congrArg (fun s : Str => s.cps.toList) h
  simpa [tl_strT] using this
theorem strT_eq {x y : List Nat} : (strT x = strT y) ↔ x = y := ⟨strT_inj, fun h => by rw [h]⟩
theorem tl_len' (x : Str) : x.cps.toList.length = sz x := by simp
/-! ### heaps -/
/-- all but c is as it was -/
def Off (c : Addr) (g g' : G) : Prop := ∀ b o, b ≠ c → g b = some o → g' b = some o
theorem off_of {D : Addr} {g g' : G} [s : SubX D g g'] : Off D g g' := s.h
theorem Off.trans {D : Addr} {g g1 g2 : G} (h : Off D g g1) (k : Off D g1 g2) : Off D g g2 := fun b o h1 h2 => k b o h1 (h b o h1 h2)
/-- all but some cells is as it was -/
def OffL (L : List Addr) (g g' : G) : Prop := ∀ b o, b ∉ L → g b = some o → g' b = some o
theorem OffL.sub {L : List Addr} {gF g g' : G} (h : OffL L g g') (s : Sub gF g) (n : ∀ b ∈ L, gF b = none) : Sub gF g' := fun b o e =>
  h b o (fun hb => by rw [n b hb] at e; cases e) (s b o e)
theorem OffL.refl {L : List Addr} {g : G} : OffL L g g := fun _ _ _ h => h
theorem OffL.trans {L : List Addr} {g g1 g2 : G} (h : OffL L g g1) (k : OffL L g1 g2) : OffL L g g2 := fun b o h1 h2 => k b o h1 (h b o h1 h2)
/-- all but some cells -/
def frg (g : G) (L : List Addr) : G := fun b => if b ∈ L then none else g b
theorem frg_sub {g : G} {L : List Addr} : Sub (frg g L) g := fun b o h => by
  unfold frg at h
  split at h
  · cases h
  · exact h
theorem frg_of {g : G} {L : List Addr} {b : Addr} {o : O} (h : g b = some o) (hb : b ∉ L) : frg g L b = some o := by
  unfold frg; rw [if_neg hb]; exact h
theorem frg_no {g : G} {L : List Addr} {b : Addr} (hb : b ∈ L) : frg g L b = none := by unfold frg; rw [if_pos hb]
theorem frg_ext {gF g : G} {L : List Addr} (s : Sub gF g) (h : ∀ b ∈ L, gF b = none) : Sub gF (frg g L) := fun b o e =>
  frg_of (s b o e) fun hb => by rw [h b hb] at e; cases e
theorem map_erase {α β : Type} (f : α → β) : ∀ (l : List α) (i : Nat), (l.map f).eraseIdx i = (l.eraseIdx i).map f
  | [], i => by simp
  | x :: r, 0 => by simp
  | x :: r, i + 1 => by simp [map_erase f r i]
theorem seq_nat {n : Nat} {i : Nat} (h : i < n) : seqIndex? (i : Int) n = some i := by
  unfold seqIndex?
  simp only
  rw [if_neg (show ¬ (i : Int) < 0 by omega), if_pos (by rw [Bool.and_eq_true, decide_eq_true_eq, decide_eq_true_eq]; omega)]
  simp
/-- ranges upward -/
theorem rgUp {i n c m : Nat} (hi : i < 1000000) (hn : n < 1000000) (hc : c = 5 ∨ c = 8 ∨ c = 12) (hm : m = (n - i + (c - 1)) / c) : RgC i n c m := by
  have e : Builtin.Range.rangeSize i n c = (m : Int) := by
    unfold Builtin.Range.rangeSize
    rcases hc with rfl | rfl | rfl <;> omega
  have hml : m < 3000000 := by
    rw [hm]
    exact Nat.lt_of_le_of_lt (Nat.div_le_self _ _) (by omega)
  refine ⟨by omega, by omega, ?_, e⟩
  unfold Builtin.Range.small
  rw [e]
  have fl : ∀ i : Int, -1 ≤ i → i < 3000000 → Builtin.Range.rangeFitsLong i = true := fun i h1 h2 => by
    unfold Builtin.Range.rangeFitsLong
    rw [Bool.and_eq_true, decide_eq_true_eq, decide_eq_true_eq]
    constructor <;> omega
  rw [fl i (by omega) (by omega), fl n (by omega) (by omega), fl c (by omega) (by omega), fl _ (by omega) (by omega), if_pos (by omega), fl _ (by omega) (by omega)]
  simp
/-- a text with its signs -/
structure Rd (S : Sh) (t : Nat) (w : List Nat) : Prop where
  le : t ≤ S.length
  rd : rd S t = w
theorem Rd.up {S S' : Sh} {t : Nat} {w : List Nat} {c : Nat} (u : Up S S' c) (h : Rd S t w) : Rd S' t w := ⟨Nat.le_trans h.le u.ge, by rw [rd_up u h.le]; exact h.rd⟩
theorem Gd.rdT {S S' : Sh} {c r : Nat} {w : List Nat} (g : Gd S S' c r w) : Rd S' r w := ⟨g.r1, g.rd⟩
theorem Rd.sg {S : Sh} {t : Nat} {w : List Nat} (wf : WF S) (h : Rd S t w) : sgT S t = w.length := by rw [← wf.len t h.le, h.rd]
theorem Rd.big {S : Sh} {t : Nat} {w : List Nat} (wf : WF S) (h : Rd S t w) : w.length ≤ 1000000000000000000 := by
  rw [← h.sg wf]
  by_cases h0 : t = 0
  · subst h0; show 0 ≤ _; omega
  · rcases wf.nd (by omega) h.le with ⟨x, n⟩ | ⟨u, v, n⟩
    · rw [n.sg]; have := n.ok.h8; omega
    · exact n.most
/-! ### parts of texts -/
def slN (w : List Nat) (b e : Int) : List Nat := (w.take e.toNat).drop b.toNat
theorem slN_app (A B : List Nat) (b e : Nat) : slN (A ++ B) b e = slN A b e ++ slN B ((b : Int) - (A.length : Int)) ((e : Int) - (A.length : Int)) := by
  unfold slN
  have e1 : ((b : Int) - (A.length : Int)).toNat = b - A.length := by omega
  have e2 : ((e : Int) - (A.length : Int)).toNat = e - A.length := by omega
  rw [e1, e2, Int.toNat_natCast, Int.toNat_natCast, List.take_append, List.drop_append, List.length_take]
  congr 1
  by_cases h : e ≤ A.length
  · have : e - A.length = 0 := by omega
    rw [this]; simp
  · rw [Nat.min_eq_right (by omega)]
section
variable {kl : Addr → List V → Prop} {defs : Nat → Option FDef} {a : Addr} {S : Sh} [d29 : DefAt defs 29 d_gathered] [d30 : DefAt defs 30 d_stretch_of]
theorem slN_norm (w : List Nat) (b e : Int) : slN w (if 0 > b then 0 else b) (if (w.length : Int) < e then (w.length : Int) else e) = slN w b e := by
  unfold slN
  have e1 : (if 0 > b then 0 else b).toNat = b.toNat := by split <;> omega
  rw [e1]
  congr 1
  split
  · rename_i h
    rw [Int.toNat_natCast, List.take_of_length_le (Nat.le_refl _), List.take_of_length_le (by omega)]
  · rfl
theorem w_gath (wf : WF S) : ∀ {n k t : Nat} {b e : Int} {g : G} {Q : VG} {E : XG} [sa : At g a (.shf S)] (ht : t ≤ S.length) (hn : SW.hp S t ≤ n) (hk : n + 1 ≤ k) (hz : (slN (rd S t) b e).length ≤ 100000)
    (q : Q (.str (strT (slN (rd S t) b e))) g), Gam kl bsP defs k 29 [.ref a, .int t, .int b, .int e] g Q E := by
  intro n
  induction n with
  | zero =>
    intro k t b e g Q E sa ht hn hk hz q
    obtain ⟨k, rfl⟩ : ∃ j, k = j + 1 := ⟨k - 1, by omega⟩
    have h0 : t = 0 := by
      by_cases h0 : t = 0
      · exact h0
      · rw [hp_pos (by omega)] at hn; omega
    subst h0
    rw [rd_zero] at q
    refine gam_of d29.h rfl ?_
    show b_gathered _ _ [some (.ref a), some (.int 0), some (.int b), some (.int e), none, none, none, none] _
    unfold b_gathered
    have e0 : strT (slN [] b e) = Str.ofString "" := by unfold slN; simp; exact strT_nil
    rw [e0] at q
    have s0 : sgT S 0 = 0 := rfl
    repeat refine go ?_
    refine gam_base (.signs sa.h (Nat.zero_le _) ?_)
    rw [s0]
    repeat refine go ?_
    refine ifD (by split <;> split <;> omega) ?_
    repeat refine go ?_
    exact fin q
  | succ n ih =>
    intro k t b e g Q E sa ht hn hk hz q
    obtain ⟨k, rfl⟩ : ∃ j, k = j + 1 := ⟨k - 1, by omega⟩
    refine gam_of d29.h rfl ?_
    show b_gathered _ _ [some (.ref a), some (.int t), some (.int b), some (.int e), none, none, none, none] _
    unfold b_gathered
    have hsg : sgT S t = (rd S t).length := by rw [← wf.len t ht]
    rw [← slN_norm] at q hz
    repeat refine go ?_
    refine ⟨by omega, ?_⟩
    rw [hsg]
    repeat refine go ?_
    obtain ⟨b2, hb2⟩ := nat_of (show 0 ≤ (if 0 > b then 0 else b) by split <;> omega)
    rw [hb2] at q hz ⊢
    generalize he2 : (if ((rd S t).length : Int) < e then ((rd S t).length : Int) else e) = e2 at *
    have he3 : e2 ≤ (rd S t).length := by rw [← he2]; split <;> omega
    by_cases hbe : e2 ≤ b2
    · refine ifD hbe ?_
      repeat refine go ?_
      have e0 : strT (slN (rd S t) b2 e2) = Str.ofString "" := by
        have : slN (rd S t) b2 e2 = [] := by
          unfold slN
          apply List.drop_eq_nil_of_le
          rw [List.length_take]; omega
        rw [this]; exact strT_nil
      rw [e0] at q
      exact fin q
    · refine ifDn hbe ?_
      repeat refine go ?_
      obtain ⟨e4, rfl⟩ := nat_of (show 0 ≤ e2 by omega)
      have t0 : 0 < t := by
        by_cases h0 : t = 0
        · subst h0; rw [rd_zero] at he3; simp at he3; omega
        · omega
      refine ⟨by omega, ?_⟩
      repeat refine go ?_
      rw [htT_pos t0]
      rcases wf.nd t0 ht with ⟨x, nd⟩ | ⟨u, v, nd⟩
      · refine ifD (by rw [nd.ht]; rfl) ?_
        haveI : PcL S t x := ⟨nd.pc⟩
        repeat refine go ?_
        intro p hp
        repeat refine go ?_
        refine ⟨_, rfl, ?_⟩
        repeat refine go ?_
        have hx8 := nd.ok.h8
        have hx : (rd S t).length = sz x := by rw [nd.rd]; simp
        refine ⟨Nat.le_trans hx8 (by simp [sizeLine]), ?_⟩
        rw [cutS_ab (by show b2 ≤ sz x; omega)]
        repeat refine go ?_
        have e0 : strT (slN (rd S t) b2 e4) = ⟨((x.cps.toList.drop b2).take (e4 - b2)).toArray⟩ := by
          unfold slN strT
          rw [Int.toNat_natCast, Int.toNat_natCast, nd.rd, List.drop_take]
        rw [e0] at q
        exact ⟨_, hp.sub, q⟩
      · refine ifDn (by rw [nd.ht]; omega) ?_
        haveI : PcF S t u v := ⟨nd.pc⟩
        repeat refine go ?_
        intro p hp
        repeat refine go ?_
        refine ⟨rfl, ?_⟩
        have hu := nd.a1
        have hv := nd.b1
        repeat refine go ?_
        refine ⟨by omega, ?_⟩
        repeat refine go ?_
        have hnt : hgT S t ≤ n := by rw [hp_pos t0] at hn; omega
        have hht := nd.ht
        have hu' : SW.hp S u ≤ n := by rw [hp_pos nd.a0]; omega
        have hv' : SW.hp S v ≤ n := by rw [hp_pos nd.b0]; omega
        have hrd : rd S t = rd S u ++ rd S v := nd.rd
        have hsu : sgT S u = (rd S u).length := by rw [← wf.len u (by omega)]
        rw [hrd, slN_app] at q hz
        rw [List.length_append] at hz
        refine ih (by omega) hu' (by omega) (by omega) ?_
        repeat refine go ?_
        rw [hsu]
        refine ih (by omega) hv' (by omega) (by omega) ?_
        repeat refine go ?_
        refine ⟨by rw [strT_len, strT_len]; simp [sizeLine]; omega, ?_⟩
        rw [← strT_app]
        exact ⟨_, hp.sub, q⟩
theorem w_str (wf : WF S) {k t : Nat} {b e : Nat} {g : G} {Q : VG} {E : XG} [sa : At g a (.shf S)] {w : List Nat} (h : Rd S t w) (h1 : b ≤ e) (h2 : e ≤ w.length) (h3 : e - b ≤ 10000) (hk : 100 ≤ k)
    (q : Q (.str (strT ((w.take e).drop b))) g) : Gam kl bsP defs k 30 [.ref a, .int t, .int b, .int e] g Q E := by
  obtain ⟨k, rfl⟩ : ∃ j, k = j + 1 := ⟨k - 1, by omega⟩
  refine gam_of d30.h rfl ?_
  show b_stretch_of _ _ [some (.ref a), some (.int t), some (.int b), some (.int e), none] _
  unfold b_stretch_of
  have hl := h.le
  have hsg := h.sg wf
  repeat refine go ?_
  refine ⟨hl, ?_⟩
  rw [hsg]
  repeat first | refine go ?_ | refine ifD (by omega) ?_ | refine ifDn (by omega) ?_ | refine ifN (by omega) ?_ | refine ifNn (by omega) ?_ | rw [decide_eq_true (show (e : Int) ≤ (w.length : Int) by omega)] | fail
  have e0 : slN (rd S t) (b : Int) (e : Int) = (w.take e).drop b := by unfold slN; rw [h.rd, Int.toNat_natCast, Int.toNat_natCast]
  refine w_gath wf hl (hp_le wf hl) (by omega) (by rw [e0, List.length_drop, List.length_take]; omega) ?_
  rw [e0]
  repeat refine go ?_
  exact fin q
end
end SW
end

section
set_option Elab.async false
set_option linter.all false
set_option maxRecDepth 100000
set_option maxHeartbeats 4000000
/-! A house. -/
namespace SW
open PySem L2
set_option synthInstance.maxHeartbeats 200000
set_option synthInstance.maxSize 100000
theorem kv_str {x : Str} : V.str x = kV (.inr x) := rfl
theorem in_dS {kl : Addr → List V → Prop} {g : G} {D : Addr} {kvs : List (Key × V)} {n : Str} {QB : Bool → G → Prop} [h : At g D (.dK kvs)] (q : QB (valV kvs (.inr n)).isSome g) : cmpV kl .In (.str n) (.ref D) g QB :=
  Or.inl ⟨_, .inl ⟨kvs, .inr n, h.h, rfl, rfl⟩, q⟩
theorem nin_dS {kl : Addr → List V → Prop} {g : G} {D : Addr} {kvs : List (Key × V)} {n : Str} {QB : Bool → G → Prop} [h : At g D (.dK kvs)] (q : QB (!(valV kvs (.inr n)).isSome) g) : cmpV kl .NotIn (.str n) (.ref D) g QB :=
  in_dS (QB := fun b g' => QB (!b) g') q
theorem ix_dS {kl : Addr → List V → Prop} {g : G} {D : Addr} {kvs : List (Key × V)} {n : Str} {v : V} {Q : VG} [h : At g D (.dK kvs)] (e : valV kvs (.inr n) = some v) (q : Q v g) : ixV kl (.ref D) (.str n) g Q :=
  Or.inr ⟨v, .inl ⟨kvs, .inr n, h.h, rfl, e.symm⟩, q⟩
theorem put_dS {g : G} {D : Addr} {kvs : List (Key × V)} {n : Str} {v : V} {K : G → Prop} [h : At g D (.dK kvs)] (hl : kvs.length < sizeLine) (q : K (gu g D (.dK (putK kvs (.inr n) v)))) : sixR (.ref D) (.str n) v g K :=
  ⟨D, rfl, .inr ⟨_, .inl ⟨kvs, .inr n, h.h, rfl, hl, rfl⟩, q⟩⟩
theorem valV_put {kvs : List (Key × V)} {k j : Key} {v : V} : valV (putK kvs k v) j = if j = k then some v else valV kvs j := by
  unfold putK
  rw [valV_any]
  split
  · rename_i h
    rw [valV_map]
    cases e : valV kvs j with
    | none =>
      rw [Option.map_none]
      split
      · rename_i h2; subst h2; rw [e] at h; cases h
      · rfl
    | some u => rw [Option.map_some]; split <;> rfl
  · rename_i h
    rw [valV_snoc]
    cases e : valV kvs k with
    | none => rfl
    | some x => rw [e] at h; exact absurd rfl h
def nameB (x : Str) : Bool := decide (1 ≤ sz x ∧ sz x ≤ 8) && x.cps.toList.all fun c => decide (c ∈ ("abcdefghijklmnopqrstuvwxyz" : Str).cps.toList)
/-- a house -/
structure HouseAt (g : G) (h sh kn pa un : Addr) (S : Sh) (kvs : List (Key × V)) (ps us : List V) : Prop where
  h : g h = some (.ins 4 [(17, .ref sh), (15, .ref kn), (18, .ref pa), (19, .ref un)])
  s : g sh = some (.shf S)
  k : g kn = some (.dK kvs)
  p : g pa = some (.lst ps)
  u : g un = some (.lst us)
  ne : pa ≠ un
theorem HouseAt.off {g g' : G} {h sh kn pa un : Addr} {S : Sh} {kvs : List (Key × V)} {ps us : List V} (H : HouseAt g h sh kn pa un S kvs ps us) (o : Sub g g') : HouseAt g' h sh kn pa un S kvs ps us :=
  ⟨o _ _ H.h, o _ _ H.s, o _ _ H.k, o _ _ H.p, o _ _ H.u, H.ne⟩
section
variable {kl : Addr → List V → Prop} {bs : Nat → SpG} {defs : Nat → Option FDef} {k : Nat} {g : G} {Q : VG} {E : XG} {h sh kn pa un : Addr} {S S' : Sh} {kvs : List (Key × V)} {ps us : List V}
theorem w_name [d3 : DefAt defs 3 d_is_name] {x : Str} (hx : sz x ≤ 1000) (hk : 1 ≤ k) (q : Q (.bl (nameB x)) g) : Gam kl bs defs k 3 [.str x] g Q E := by
  obtain ⟨k, rfl⟩ : ∃ j, k = j + 1 := ⟨k - 1, by omega⟩
  refine gam_of d3.h rfl ?_
  show b_is_name _ _ [some (.str x), none] _
  unfold b_is_name
  have hs : sizeLine = 16777216 := rfl
  have ex : x.length = sz x := rfl
  repeat refine go ?_
  refine ⟨by omega, ?_⟩
  repeat refine go ?_
  by_cases h1 : 1 ≤ sz x
  · refine ifD (by omega) ?_
    repeat refine go ?_
    by_cases h8 : sz x ≤ 8
    · rw [decide_eq_true (show (x.length : Int) ≤ 8 by omega)]
      repeat refine go ?_
      refine lc_of (fun i => (x.cps.toList[i]?).map fun c => V.bl (decide (c ∈ ("abcdefghijklmnopqrstuvwxyz" : Str).cps.toList))) (by show sz x ≤ _; omega) (fun _ _ _ => trivial) (fun D i hD hi KY KN hy hn => ?_) (fun D hD => ?_)
      · refine go ?_
        intro c hc
        have hc' : x.cps.toList[i]? = some c := by rw [Array.getElem?_toList]; exact hc
        show (gN 1) _ _ [some (.str x), none] _ _
        repeat refine go ?_
        refine ⟨rfl, ?_⟩
        repeat refine go ?_
        refine ⟨c, rfl, ?_⟩
        exact hy _ _ (by rw [hc']; rfl) (Sub.refl _)
      · rw [fm_all x.cps.toList _ (by simp [Sq.len])]
        repeat refine go ?_
        refine ⟨D, x.cps.toList.map fun c => decide (c ∈ ("abcdefghijklmnopqrstuvwxyz" : Str).cps.toList), rfl, .inl (by rw [gus, List.map_map]; rfl), ?_⟩
        have e0 : nameB x = ((x.cps.toList.map fun c => decide (c ∈ ("abcdefghijklmnopqrstuvwxyz" : Str).cps.toList)).all id) := by
          unfold nameB
          rw [decide_eq_true (show 1 ≤ sz x ∧ sz x ≤ 8 from ⟨h1, h8⟩), Bool.true_and, List.all_map]
          rfl
        rw [← e0]
        exact ⟨g, Sub.new hD, q⟩
    · rw [decide_eq_false (show ¬ (x.length : Int) ≤ 8 by omega)]
      repeat refine go ?_
      have e0 : nameB x = false := by unfold nameB; rw [decide_eq_false (by omega)]; rfl
      rw [e0] at q
      exact fin q
  · refine ifDn (by omega) ?_
    repeat refine go ?_
    have e0 : nameB x = false := by unfold nameB; rw [decide_eq_false (by omega)]; rfl
    rw [e0] at q
    exact fin q
theorem h_init [d103 : DefAt defs 103 d_House___init__] (hg : g h = some (.ins 4 [])) (hk : 1 ≤ k) (q : ∀ g' sh kn pa un, HouseAt g' h sh kn pa un [] [] [] [] → OffL [h] g g' → g sh = none → g kn = none → g pa = none → g un = none → Q .non g') : Gam kl bsP defs k 103 [.ref h] g Q E := by
  obtain ⟨k, rfl⟩ : ∃ j, k = j + 1 := ⟨k - 1, by omega⟩
  haveI i1 : At g h _ := ⟨hg⟩
  refine gam_of d103.h rfl ?_
  show b_House___init__ _ _ [some (.ref h)] _
  unfold b_House___init__
  repeat refine go ?_
  intro sh hsh
  haveI f1 : Fr g sh := ⟨hsh⟩
  refine gam_base (.init gus ⟨rfl, ?_⟩)
  rw [gu_gu]
  haveI n1 : NeA h sh := NeA.of_fr i1 f1
  haveI n1' := n1.symm
  repeat refine go ?_
  refine ⟨⟨by decide, by simp⟩, ?_⟩
  repeat refine go ?_
  refine .inl fun kn hkn => ?_
  haveI f2 : Fr _ kn := ⟨hkn⟩
  haveI n2 : NeA h kn := NeA.of_fr (o := .ins 4 [(17, .ref sh)]) inferInstance f2
  haveI n2' := n2.symm
  repeat refine go ?_
  refine ⟨⟨by decide, by simp⟩, ?_⟩
  repeat refine go ?_
  refine ⟨by simp, fun pa hpa => ?_⟩
  haveI n3 : NeA h pa := NeA.of_fr (o := .ins 4 [(17, .ref sh), (15, .ref kn)]) inferInstance hpa
  haveI n3' := n3.symm
  repeat refine go ?_
  refine ⟨⟨by decide, by simp⟩, ?_⟩
  repeat refine go ?_
  refine ⟨by simp, fun un hun => ?_⟩
  haveI n4 : NeA h un := NeA.of_fr (o := .ins 4 [(17, .ref sh), (15, .ref kn), (18, .ref pa)]) inferInstance hun
  haveI n4' := n4.symm
  haveI n5 : NeA pa un := NeA.of_fr (o := .lst []) inferInstance hun
  repeat refine go ?_
  refine ⟨⟨by decide, by simp⟩, ?_⟩
  repeat refine go ?_
  refine ⟨_, Sub.refl _, q _ sh kn pa un ⟨At.h, At.h, At.h, At.h, At.h, n5.h⟩ (fun b o hb e => ?_) hsh ?_ ?_ ?_⟩
  · have hb1 : b ≠ h := by simpa using hb
    rw [gun hb1]
    have e1 := Sub.new (o := .shf []) hsh _ _ e
    have e2 : (gu (gu g sh (.shf [])) h (.ins 4 [(17, .ref sh)])) b = some o := by rw [gun hb1]; exact e1
    have e3 : (gu (gu (gu g sh (.shf [])) h (.ins 4 [(17, .ref sh)])) kn (.dK [])) b = some o := Sub.new hkn _ _ e2
    have e4 : (gu (gu (gu (gu g sh (.shf [])) h (.ins 4 [(17, .ref sh)])) kn (.dK [])) h (.ins 4 [(17, .ref sh), (15, .ref kn)])) b = some o := by rw [gun hb1]; exact e3
    have e5 := Sub.new (o := .lst []) hpa.h _ _ e4
    have e6 : (gu (gu (gu (gu (gu (gu g sh (.shf [])) h (.ins 4 [(17, .ref sh)])) kn (.dK [])) h (.ins 4 [(17, .ref sh), (15, .ref kn)])) pa (.lst [])) h (.ins 4 [(17, .ref sh), (15, .ref kn), (18, .ref pa)])) b = some o := by rw [gun hb1]; exact e5
    exact Sub.new (o := .lst []) hun.h _ _ e6
  · exact f2.of_gu.of_gu.h
  · exact hpa.of_gu.of_gu.of_gu.of_gu.h
  · exact hun.of_gu.of_gu.of_gu.of_gu.of_gu.of_gu.h
theorem h_shelf [d104 : DefAt defs 104 d_House_shelf] (H : HouseAt g h sh kn pa un S kvs ps us) (hk : 1 ≤ k) (q : Q (.ref sh) g) : Gam kl bs defs k 104 [.ref h] g Q E := by
  obtain ⟨k, rfl⟩ : ∃ j, k = j + 1 := ⟨k - 1, by omega⟩
  haveI i1 : At g h _ := ⟨H.h⟩
  refine gam_of d104.h rfl ?_
  show b_House_shelf _ _ [some (.ref h)] _
  unfold b_House_shelf
  repeat refine go ?_
  exact fin q
theorem h_text [d106 : DefAt defs 106 d_House_text] {name : Str} {v : V} (H : HouseAt g h sh kn pa un S kvs ps us) (e : valV kvs (.inr name) = some v) (hk : 1 ≤ k) (q : Q v g) : Gam kl bs defs k 106 [.ref h, .str name] g Q E := by
  obtain ⟨k, rfl⟩ : ∃ j, k = j + 1 := ⟨k - 1, by omega⟩
  haveI i1 : At g h _ := ⟨H.h⟩
  haveI i2 : At g kn _ := ⟨H.k⟩
  refine gam_of d106.h rfl ?_
  show b_House_text _ _ [some (.ref h), some (.str name)] _
  unfold b_House_text
  repeat refine go ?_
  refine nin_dS ?_
  rw [e]
  repeat refine go ?_
  refine ifF ?_
  repeat refine go ?_
  refine ix_dS e ?_
  exact fin q
/-- a deed is kept -/
theorem h_given [d107 : DefAt defs 107 d_House_step] [d108 : DefAt defs 108 d_House_given] {name : Str} {v : V} (H : HouseAt g h sh kn pa un S kvs ps us) (hkv : kvs.length < 1000) (hps : ps.length < 1000) (hk : 2 ≤ k)
    (q : ∀ g' kn' un', HouseAt g' h sh kn' pa un' S (putK kvs (.inr name) v) (ps ++ [.ref kn]) [] → OffL [h, pa] g g' → g kn' = none → g un' = none → Q .non g') : Gam kl bs defs k 108 [.ref h, .str name, v] g Q E := by
  obtain ⟨k, rfl⟩ : ∃ j, k = j + 1 := ⟨k - 1, by omega⟩
  obtain ⟨k, rfl⟩ : ∃ j, k = j + 1 := ⟨k - 1, by omega⟩
  have hs : sizeLine = 16777216 := rfl
  haveI i1 : At g h _ := ⟨H.h⟩
  haveI i2 : At g kn _ := ⟨H.k⟩
  haveI i3 : At g pa _ := ⟨H.p⟩
  haveI i4 : At g sh _ := ⟨H.s⟩
  haveI n1 : NeA h pa := NeA.of_at i1 i3 (fun z => nomatch z)
  haveI n2 : NeA h kn := NeA.of_at i1 i2 (fun z => nomatch z)
  haveI n3 : NeA pa kn := NeA.of_at i3 i2 (fun z => nomatch z)
  haveI n4 : NeA h sh := NeA.of_at i1 i4 (fun z => nomatch z)
  haveI n5 : NeA pa sh := NeA.of_at i3 i4 (fun z => nomatch z)
  haveI := n1.symm
  haveI := n2.symm
  haveI := n3.symm
  haveI := n4.symm
  haveI := n5.symm
  refine gam_of d108.h rfl ?_
  show b_House_given _ _ [some (.ref h), some (.str name), some v, none] _
  unfold b_House_given
  repeat refine go ?_
  refine ⟨kn, kvs, rfl, H.k, fun D hD => ?_⟩
  haveI f1 : Fr g D := ⟨hD⟩
  haveI n6 : NeA h D := NeA.of_fr i1 f1
  haveI n7 : NeA pa D := NeA.of_fr i3 f1
  haveI n8 : NeA kn D := NeA.of_fr i2 f1
  haveI n9 : NeA sh D := NeA.of_fr i4 f1
  haveI := n6.symm
  haveI := n7.symm
  haveI := n8.symm
  haveI := n9.symm
  repeat refine go ?_
  refine put_dS (by omega) ?_
  rw [gu_gu]
  repeat refine go ?_
  refine gam_of d107.h rfl ?_
  show b_House_step _ _ [some (.ref h), some (.ref D)] _
  unfold b_House_step
  repeat refine go ?_
  refine ⟨by omega, ?_⟩
  repeat refine go ?_
  refine ⟨⟨by decide, by simp⟩, ?_⟩
  repeat refine go ?_
  refine ⟨by simp, fun un' hun => ?_⟩
  haveI n10 : NeA h un' := NeA.of_fr (o := .ins 4 [(17, .ref sh), (15, .ref D), (18, .ref pa), (19, .ref un)]) inferInstance hun
  haveI n11 : NeA pa un' := NeA.of_fr (o := .lst (ps ++ [.ref kn])) inferInstance hun
  haveI := n10.symm
  repeat refine go ?_
  refine ⟨⟨by decide, by simp⟩, ?_⟩
  repeat refine go ?_
  refine ⟨_, Sub.refl _, _, Sub.refl _, q _ D un' ⟨At.h, At.h, At.h, At.h, At.h, n11.h⟩ (fun b o hb e => ?_) hD hun.of_gu.of_gu.of_gu.h⟩
  simp only [List.mem_cons, List.not_mem_nil, or_false, not_or] at hb
  rw [gun hb.1]
  refine Sub.new hun.h _ _ ?_
  rw [gun hb.1, gun hb.2]
  exact Sub.new hD _ _ e
end
end SW
end

section
set_option Elab.async false
set_option linter.all false
set_option maxRecDepth 100000
set_option maxHeartbeats 4000000
/-! A house's deeds. -/
namespace SW
open PySem L2
set_option synthInstance.maxHeartbeats 200000
set_option synthInstance.maxSize 100000
theorem HouseAt.lay {g : G} {h sh kn pa un : Addr} {S S' : Sh} {kvs : List (Key × V)} {ps us : List V} (H : HouseAt g h sh kn pa un S kvs ps us) : HouseAt (gu g sh (.shf S')) h sh kn pa un S' kvs ps us := by
  have n1 : h ≠ sh := fun z => by have := H.h; rw [z, H.s] at this; cases this
  have n2 : kn ≠ sh := fun z => by have := H.k; rw [z, H.s] at this; cases this
  have n3 : pa ≠ sh := fun z => by have := H.p; rw [z, H.s] at this; cases this
  have n4 : un ≠ sh := fun z => by have := H.u; rw [z, H.s] at this; cases this
  exact ⟨by rw [gun n1]; exact H.h, gus, by rw [gun n2]; exact H.k, by rw [gun n3]; exact H.p, by rw [gun n4]; exact H.u, H.ne⟩
/-- behind a deed of a house -/
structure Deed (g g' : G) (h sh kn pa kn' un' : Addr) (S' : Sh) (kvs' : List (Key × V)) (ps : List V) : Prop where
  at_ : HouseAt g' h sh kn' pa un' S' kvs' (ps ++ [.ref kn]) []
  off : OffL [h, sh, pa] g g'
  fk : g kn' = none
  fu : g un' = none
theorem deed_of {g g' : G} {h sh kn pa un kn' un' : Addr} {S S' : Sh} {kvs kvs' : List (Key × V)} {ps us : List V} (H : HouseAt g h sh kn pa un S kvs ps us) (a : HouseAt g' h sh kn' pa un' S' kvs' (ps ++ [.ref kn]) []) (o : OffL [h, pa] (gu g sh (.shf S')) g') (f1 : (gu g sh (.shf S')) kn' = none) (f2 : (gu g sh (.shf S')) un' = none) :
    Deed g g' h sh kn pa kn' un' S' kvs' ps := by
  have fr : ∀ x, (gu g sh (.shf S')) x = none → g x = none := fun x hx => (Fr.of_gu ⟨hx⟩ : Fr g x).h
  refine ⟨a, fun b o' hb e => ?_, fr _ f1, fr _ f2⟩
  simp only [List.mem_cons, List.not_mem_nil, or_false, not_or] at hb
  exact o b o' (by simp [hb.1, hb.2.2]) (by rw [gun hb.2.1]; exact e)
section
variable {kl : Addr → List V → Prop} {defs : Nat → Option FDef} {k : Nat} {g : G} {Q : VG} {E : XG} {h sh kn pa un : Addr} {S S' : Sh} {kvs : List (Key × V)} {ps us : List V} [jd : JoD defs] [d3 : DefAt defs 3 d_is_name] [d52 : DefAt defs 52 d_repeated] [d57 : DefAt defs 57 d_put_in] [d58 : DefAt defs 58 d_taken_out]
  [d106 : DefAt defs 106 d_House_text] [d107 : DefAt defs 107 d_House_step] [d108 : DefAt defs 108 d_House_given] [d109 : DefAt defs 109 d_House_give] [d111 : DefAt defs 111 d_House_join_to] [d112 : DefAt defs 112 d_House_put_into] [d113 : DefAt defs 113 d_House_take_from] [d114 : DefAt defs 114 d_House_repeat]
  [d116 : DefAt defs 116 d_House_back] [d117 : DefAt defs 117 d_House_again]
theorem h_give {name x : Str} {r : Nat} (H : HouseAt g h sh kn pa un S kvs ps us) (hn : nameB name = true) (hd : buN 20 x S = some (r, S')) (hkv : kvs.length < 1000) (hps : ps.length < 1000) (hk : 30 ≤ k)
    (q : ∀ g' kn' un', Deed g g' h sh kn pa kn' un' S' (putK kvs (.inr name) (nV r)) ps → Q .non g') : Gam kl bsP defs k 109 [.ref h, .str name, .str x] g Q E := by
  obtain ⟨k, rfl⟩ : ∃ j, k = j + 1 := ⟨k - 1, by omega⟩
  haveI i1 : At g h _ := ⟨H.h⟩
  haveI i2 : At g sh _ := ⟨H.s⟩
  refine gam_of d109.h rfl ?_
  show b_House_give _ _ [some (.ref h), some (.str name), some (.str x)] _
  unfold b_House_give
  repeat refine go ?_
  have hz : sz name ≤ 8 := by
    unfold nameB at hn
    rw [Bool.and_eq_true, decide_eq_true_eq] at hn
    exact hn.1.2
  refine w_name (by omega) (by omega) ?_
  rw [hn]
  repeat refine go ?_
  refine w_bu hd (by omega) ?_
  repeat refine go ?_
  have H' := H.lay (S' := S')
  haveI i3 : At (gu g sh (.shf S')) h _ := ⟨H'.h⟩
  repeat refine go ?_
  refine h_given H' hkv hps (by omega) fun g' kn' un' a o f1 f2 => ?_
  repeat refine go ?_
  exact ⟨_, Sub.refl _, q g' kn' un' (deed_of H a o f1 f2)⟩
theorem h_join {name other : Str} {x y r : Nat} (H : HouseAt g h sh kn pa un S kvs ps us) (e1 : valV kvs (.inr name) = some (nV x)) (e2 : valV kvs (.inr other) = some (nV y)) (hd : joN 86 x y S = some (r, S')) (hkv : kvs.length < 1000) (hps : ps.length < 1000) (hk : 98 ≤ k)
    (q : ∀ g' kn' un', Deed g g' h sh kn pa kn' un' S' (putK kvs (.inr name) (nV r)) ps → Q .non g') : Gam kl bsP defs k 111 [.ref h, .str name, .str other] g Q E := by
  obtain ⟨k, rfl⟩ : ∃ j, k = j + 1 := ⟨k - 1, by omega⟩
  haveI i1 : At g h _ := ⟨H.h⟩
  haveI i2 : At g sh _ := ⟨H.s⟩
  refine gam_of d111.h rfl ?_
  show b_House_join_to _ _ [some (.ref h), some (.str name), some (.str other)] _
  unfold b_House_join_to
  repeat refine go ?_
  refine h_text H e1 (by omega) ?_
  repeat refine go ?_
  refine h_text H e2 (by omega) ?_
  repeat refine go ?_
  refine w_jo hd (by omega) ?_
  have H' := H.lay (S' := S')
  haveI i3 : At (gu g sh (.shf S')) h _ := ⟨H'.h⟩
  repeat refine go ?_
  refine h_given H' hkv hps (by omega) fun g' kn' un' a o f1 f2 => ?_
  repeat refine go ?_
  exact ⟨_, Sub.refl _, q g' kn' un' (deed_of H a o f1 f2)⟩
theorem h_put {name other : Str} {x y r at_ : Nat} (H : HouseAt g h sh kn pa un S kvs ps us) (e1 : valV kvs (.inr name) = some (nV x)) (e2 : valV kvs (.inr other) = some (nV y)) (hd : piN 86 x at_ y S = some (r, S')) (hkv : kvs.length < 1000) (hps : ps.length < 1000) (hk : 102 ≤ k)
    (q : ∀ g' kn' un', Deed g g' h sh kn pa kn' un' S' (putK kvs (.inr name) (nV r)) ps → Q .non g') : Gam kl bsP defs k 112 [.ref h, .str name, .int at_, .str other] g Q E := by
  obtain ⟨k, rfl⟩ : ∃ j, k = j + 1 := ⟨k - 1, by omega⟩
  haveI i1 : At g h _ := ⟨H.h⟩
  haveI i2 : At g sh _ := ⟨H.s⟩
  refine gam_of d112.h rfl ?_
  show b_House_put_into _ _ [some (.ref h), some (.str name), some (.int at_), some (.str other)] _
  unfold b_House_put_into
  repeat refine go ?_
  refine h_text H e1 (by omega) ?_
  repeat refine go ?_
  refine h_text H e2 (by omega) ?_
  repeat refine go ?_
  refine w_pi hd (by omega) ?_
  have H' := H.lay (S' := S')
  haveI i3 : At (gu g sh (.shf S')) h _ := ⟨H'.h⟩
  repeat refine go ?_
  refine h_given H' hkv hps (by omega) fun g' kn' un' a o f1 f2 => ?_
  repeat refine go ?_
  exact ⟨_, Sub.refl _, q g' kn' un' (deed_of H a o f1 f2)⟩
theorem h_take {name : Str} {x r b e : Nat} (H : HouseAt g h sh kn pa un S kvs ps us) (e1 : valV kvs (.inr name) = some (nV x)) (hd : tkN 86 x b e S = some (r, S')) (hkv : kvs.length < 1000) (hps : ps.length < 1000) (hk : 102 ≤ k)
    (q : ∀ g' kn' un', Deed g g' h sh kn pa kn' un' S' (putK kvs (.inr name) (nV r)) ps → Q .non g') : Gam kl bsP defs k 113 [.ref h, .str name, .int b, .int e] g Q E := by
  obtain ⟨k, rfl⟩ : ∃ j, k = j + 1 := ⟨k - 1, by omega⟩
  haveI i1 : At g h _ := ⟨H.h⟩
  haveI i2 : At g sh _ := ⟨H.s⟩
  refine gam_of d113.h rfl ?_
  show b_House_take_from _ _ [some (.ref h), some (.str name), some (.int b), some (.int e)] _
  unfold b_House_take_from
  repeat refine go ?_
  refine h_text H e1 (by omega) ?_
  repeat refine go ?_
  refine w_tk hd (by omega) ?_
  have H' := H.lay (S' := S')
  haveI i3 : At (gu g sh (.shf S')) h _ := ⟨H'.h⟩
  repeat refine go ?_
  refine h_given H' hkv hps (by omega) fun g' kn' un' a o f1 f2 => ?_
  repeat refine go ?_
  exact ⟨_, Sub.refl _, q g' kn' un' (deed_of H a o f1 f2)⟩
theorem h_rep {name : Str} {x r m : Nat} (H : HouseAt g h sh kn pa un S kvs ps us) (e1 : valV kvs (.inr name) = some (nV x)) (hd : reN 86 x m S = some (r, S')) (hm : m < 2 ^ 64) (hs : sgT S x < 2 ^ 64) (hkv : kvs.length < 1000) (hps : ps.length < 1000) (hk : 102 ≤ k)
    (q : ∀ g' kn' un', Deed g g' h sh kn pa kn' un' S' (putK kvs (.inr name) (nV r)) ps → Q .non g') : Gam kl bsP defs k 114 [.ref h, .str name, .int m] g Q E := by
  obtain ⟨k, rfl⟩ : ∃ j, k = j + 1 := ⟨k - 1, by omega⟩
  haveI i1 : At g h _ := ⟨H.h⟩
  haveI i2 : At g sh _ := ⟨H.s⟩
  refine gam_of d114.h rfl ?_
  show b_House_repeat _ _ [some (.ref h), some (.str name), some (.int m)] _
  unfold b_House_repeat
  repeat refine go ?_
  refine h_text H e1 (by omega) ?_
  repeat refine go ?_
  refine w_re hd hm hs (by omega) ?_
  have H' := H.lay (S' := S')
  haveI i3 : At (gu g sh (.shf S')) h _ := ⟨H'.h⟩
  repeat refine go ?_
  refine h_given H' hkv hps (by omega) fun g' kn' un' a o f1 f2 => ?_
  repeat refine go ?_
  exact ⟨_, Sub.refl _, q g' kn' un' (deed_of H a o f1 f2)⟩
theorem h_back {kb : Addr} {kvb : List (Key × V)} (H : HouseAt g h sh kn pa un S kvs (ps ++ [.ref kb]) us) (hb : g kb = some (.dK kvb)) (hl : us.length < 1000) (hk : 1 ≤ k)
    (q : ∀ g', HouseAt g' h sh kb pa un S kvb ps (us ++ [.ref kn]) → OffL [h, pa, un] g g' → Q .non g') : Gam kl bsP defs k 116 [.ref h] g Q E := by
  obtain ⟨k, rfl⟩ : ∃ j, k = j + 1 := ⟨k - 1, by omega⟩
  have hs : sizeLine = 16777216 := rfl
  haveI i1 : At g h _ := ⟨H.h⟩
  haveI i2 : At g kn _ := ⟨H.k⟩
  haveI i3 : At g pa _ := ⟨H.p⟩
  haveI i4 : At g sh _ := ⟨H.s⟩
  haveI i5 : At g un _ := ⟨H.u⟩
  haveI i6 : At g kb _ := ⟨hb⟩
  haveI n1 : NeA h pa := NeA.of_at i1 i3 (fun z => nomatch z)
  haveI n2 : NeA h un := NeA.of_at i1 i5 (fun z => nomatch z)
  haveI n3 : NeA pa un := ⟨H.ne⟩
  haveI n4 : NeA sh pa := NeA.of_at i4 i3 (fun z => nomatch z)
  haveI n5 : NeA sh un := NeA.of_at i4 i5 (fun z => nomatch z)
  haveI n6 : NeA sh h := NeA.of_at i4 i1 (fun z => nomatch z)
  haveI n7 : NeA kb pa := NeA.of_at i6 i3 (fun z => nomatch z)
  haveI n8 : NeA kb un := NeA.of_at i6 i5 (fun z => nomatch z)
  haveI n9 : NeA kb h := NeA.of_at i6 i1 (fun z => nomatch z)
  haveI := n1.symm
  haveI := n2.symm
  haveI := n3.symm
  refine gam_of d116.h rfl ?_
  show b_House_back _ _ [some (.ref h)] _
  unfold b_House_back
  repeat refine go ?_
  refine ⟨by simp, fun r hr => ?_⟩
  repeat refine go ?_
  refine eq_len At.h gus (by simp) ?_
  repeat refine go ?_
  refine ⟨by omega, ?_⟩
  haveI m1 : NeA un r := NeA.of_fr i5 hr
  haveI m2 : NeA pa r := NeA.of_fr i3 hr
  haveI m3 : NeA h r := NeA.of_fr i1 hr
  haveI := m1.symm
  haveI := m2.symm
  haveI := m3.symm
  repeat refine go ?_
  refine ⟨pa, ps ++ [.ref kb], .ref kb, rfl, At.h, by simp, ?_⟩
  rw [List.dropLast_concat]
  repeat refine go ?_
  refine ⟨⟨by decide, by simp⟩, ?_⟩
  repeat refine go ?_
  refine ⟨_, Sub.refl _, q _ ⟨At.h, At.h, At.h, At.h, At.h, n3.h⟩ fun b o hb e => ?_⟩
  simp only [List.mem_cons, List.not_mem_nil, or_false, not_or] at hb
  rw [gun hb.1, gun hb.2.1, gun hb.2.2]
  exact Sub.new hr.h _ _ e
theorem h_again {kb : Addr} {kvb : List (Key × V)} (H : HouseAt g h sh kn pa un S kvs ps (us ++ [.ref kb])) (hb : g kb = some (.dK kvb)) (hl : ps.length < 1000) (hk : 1 ≤ k)
    (q : ∀ g', HouseAt g' h sh kb pa un S kvb (ps ++ [.ref kn]) us → OffL [h, pa, un] g g' → Q .non g') : Gam kl bsP defs k 117 [.ref h] g Q E := by
  obtain ⟨k, rfl⟩ : ∃ j, k = j + 1 := ⟨k - 1, by omega⟩
  have hs : sizeLine = 16777216 := rfl
  haveI i1 : At g h _ := ⟨H.h⟩
  haveI i2 : At g kn _ := ⟨H.k⟩
  haveI i3 : At g pa _ := ⟨H.p⟩
  haveI i4 : At g sh _ := ⟨H.s⟩
  haveI i5 : At g un _ := ⟨H.u⟩
  haveI i6 : At g kb _ := ⟨hb⟩
  haveI n1 : NeA h pa := NeA.of_at i1 i3 (fun z => nomatch z)
  haveI n2 : NeA h un := NeA.of_at i1 i5 (fun z => nomatch z)
  haveI n3 : NeA pa un := ⟨H.ne⟩
  haveI n4 : NeA sh pa := NeA.of_at i4 i3 (fun z => nomatch z)
  haveI n5 : NeA sh un := NeA.of_at i4 i5 (fun z => nomatch z)
  haveI n6 : NeA sh h := NeA.of_at i4 i1 (fun z => nomatch z)
  haveI n7 : NeA kb pa := NeA.of_at i6 i3 (fun z => nomatch z)
  haveI n8 : NeA kb un := NeA.of_at i6 i5 (fun z => nomatch z)
  haveI n9 : NeA kb h := NeA.of_at i6 i1 (fun z => nomatch z)
  haveI := n1.symm
  haveI := n2.symm
  haveI := n3.symm
  refine gam_of d117.h rfl ?_
  show b_House_again _ _ [some (.ref h)] _
  unfold b_House_again
  repeat refine go ?_
  refine ⟨by simp, fun r hr => ?_⟩
  repeat refine go ?_
  refine eq_len At.h gus (by simp) ?_
  repeat refine go ?_
  refine ⟨by omega, ?_⟩
  haveI m1 : NeA un r := NeA.of_fr i5 hr
  haveI m2 : NeA pa r := NeA.of_fr i3 hr
  haveI m3 : NeA h r := NeA.of_fr i1 hr
  haveI := m1.symm
  haveI := m2.symm
  haveI := m3.symm
  repeat refine go ?_
  refine ⟨un, us ++ [.ref kb], .ref kb, rfl, At.h, by simp, ?_⟩
  rw [List.dropLast_concat]
  repeat refine go ?_
  refine ⟨⟨by decide, by simp⟩, ?_⟩
  repeat refine go ?_
  refine ⟨_, Sub.refl _, q _ ⟨At.h, At.h, At.h, At.h, At.h, n3.h⟩ fun b o hb e => ?_⟩
  simp only [List.mem_cons, List.not_mem_nil, or_false, not_or] at hb
  rw [gun hb.1, gun hb.2.2, gun hb.2.1]
  exact Sub.new hr.h _ _ e
end
end SW
end

section
set_option Elab.async false
set_option linter.all false
set_option maxRecDepth 100000
set_option maxHeartbeats 4000000
/-! Blocks: a plain text, so many times. -/
namespace SW
open PySem L2
abbrev Blk := List (Str × Nat)
def bl (bs : Blk) : List Nat := (bs.map fun p => rep p.2 p.1.cps.toList).flatten
theorem bl_nil : bl [] = [] := rfl
theorem bl_app (a b : Blk) : bl (a ++ b) = bl a ++ bl b := by unfold bl; simp
theorem bl_one (p : Str × Nat) : bl [p] = rep p.2 p.1.cps.toList := by unfold bl; simp
theorem bl_cons (p : Str × Nat) (b : Blk) : bl (p :: b) = rep p.2 p.1.cps.toList ++ bl b := by unfold bl; simp
theorem rep_zero (w : List Nat) : rep 0 w = [] := rfl
def BOk (bs : Blk) : Prop := ∀ p ∈ bs, 1 ≤ sz p.1 ∧ sz p.1 ≤ 30 ∧ p.2 ≤ 100000000000000000
theorem tl_len (x : Str) : x.cps.toList.length = sz x := by simp
theorem rep_lt {L m f at_ : Nat} {w : List Nat} (hw : w.length = L) (hL : 1 ≤ L) (hf : f = at_ / L) (h : f < m) : at_ - f * L < L ∧ f * L ≤ at_ ∧ (rep m w).take at_ = rep f w ++ w.take (at_ - f * L) ∧ (rep m w).drop at_ = w.drop (at_ - f * L) ++ rep (m - f - 1) w := by
  have h1 : f * L ≤ at_ := by rw [hf]; exact Nat.div_mul_le_self _ _
  have h2 : at_ - f * L < L := by
    have := Nat.div_add_mod at_ L
    have h3 := Nat.mod_lt at_ (show 0 < L by omega)
    rw [← hf, Nat.mul_comm] at this
    omega
  have e0 : m = f + (1 + (m - f - 1)) := by omega
  have e1 : rep m w = rep f w ++ (w ++ rep (m - f - 1) w) := by
    conv => lhs; rw [e0]
    rw [rep_add, Nat.add_comm 1, rep_succ]
  have l1 : (rep f w).length = f * L := by rw [rep_len, hw, Nat.mul_comm]
  refine ⟨h2, h1, ?_, ?_⟩
  · rw [e1, List.take_append, l1, List.take_of_length_le (by omega), List.take_append_of_le_length (by omega)]
  · rw [e1, List.drop_append, l1, List.drop_eq_nil_of_le (by omega), List.nil_append, List.drop_append_of_le_length (by omega)]
theorem rep_ge {L m at_ : Nat} {w : List Nat} (hw : w.length = L) (hL : 1 ≤ L) (h : m ≤ at_ / L) : m * L ≤ at_ ∧ (rep m w).take at_ = rep m w ∧ (rep m w).drop at_ = [] := by
  have h1 : m * L ≤ at_ := (Nat.le_div_iff_mul_le (by omega)).mp h
  have l1 : (rep m w).length = m * L := by rw [rep_len, hw, Nat.mul_comm]
  exact ⟨h1, List.take_of_length_le (by omega), List.drop_eq_nil_of_le (by omega)⟩
theorem take_bl {bs : Blk} {i : Nat} {p : Str × Nat} (h : bs[i]? = some p) : bs.take (i + 1) = bs.take i ++ [p] := by
  have hi := (List.getElem?_eq_some_iff.mp h).1
  have he := (List.getElem?_eq_some_iff.mp h).2
  rw [List.take_succ, h]; rfl
/-- the blocks of the first signs, behind i blocks -/
structure FiI (bs : Blk) (at0 i : Nat) (fs : Blk) (at_ : Nat) : Prop where
  b : bl fs = (bl (bs.take i)).take at0
  a : at_ = at0 - (bl (bs.take i)).length
  ok : BOk fs
  c : ∃ c, c ≤ i ∧ (∀ j, j < c → (bl (bs.take j)).length < at0) ∧ fs.length ≤ c + 1 ∧ (0 < at_ → c = i ∧ fs.length ≤ c)
theorem BOk.app {a b : Blk} (h : BOk a) (k : BOk b) : BOk (a ++ b) := fun p hp => (List.mem_append.mp hp).elim (h p) (k p)
theorem BOk.one {x : Str} {m : Nat} (h1 : 1 ≤ sz x) (h2 : sz x ≤ 30) (h3 : m ≤ 100000000000000000) : BOk [(x, m)] := fun p hp => by
  rw [List.mem_singleton] at hp; subst hp; exact ⟨h1, h2, h3⟩
theorem FiI.zero {bs : Blk} {at0 : Nat} : FiI bs at0 0 [] at0 := ⟨by simp [bl_nil], by simp [bl_nil], fun p h => (nomatch h), 0, by omega, fun j h => by omega, by simp, fun _ => by simp⟩
theorem FiI.skip {bs fs : Blk} {at0 i : Nat} {p : Str × Nat} (h : FiI bs at0 i fs 0) (hp : bs[i]? = some p) : FiI bs at0 (i + 1) fs 0 := by
  obtain ⟨c, c1, c2, c3, c4⟩ := h.c
  have ha := h.a
  refine ⟨?_, ?_, h.ok, c, by omega, c2, c3, fun z => by omega⟩
  · rw [take_bl hp, bl_app, List.take_append_of_le_length (by omega)]; exact h.b
  · rw [take_bl hp, bl_app, List.length_append]; omega
theorem FiI.full {bs fs : Blk} {at0 i at_ m : Nat} {x : Str} (h : FiI bs at0 i fs at_) (hp : bs[i]? = some (x, m)) (h0 : 0 < at_) (hm : m ≤ at_ / sz x) (ok : BOk bs) : FiI bs at0 (i + 1) (fs ++ [(x, m)]) (at_ - m * sz x) := by
  obtain ⟨c, c1, c2, c3, c4⟩ := h.c
  have ho : 1 ≤ sz x ∧ sz x ≤ 30 ∧ m ≤ 100000000000000000 := ok _ (List.mem_of_getElem? hp)
  obtain ⟨r1, r2, r3⟩ := rep_ge (m := m) (tl_len x) ho.1 hm
  have ha := h.a
  have lr : (rep m x.cps.toList).length = m * sz x := by rw [rep_len, tl_len, Nat.mul_comm]
  refine ⟨?_, ?_, h.ok.app (.one ho.1 ho.2.1 ho.2.2), i + 1, by omega, fun j hj => ?_, ?_, fun _ => ⟨rfl, ?_⟩⟩
  · rw [take_bl hp, bl_app, bl_app, bl_one, List.take_append, h.b, ← ha, r2]
  · rw [take_bl hp, bl_app, List.length_append, bl_one, lr]; omega
  · by_cases hj2 : j = i
    · subst hj2; omega
    · exact c2 j (by have := (c4 h0).1; omega)
  · rw [List.length_append]; have := (c4 h0).2; have := (c4 h0).1; simp; omega
  · rw [List.length_append]; have := (c4 h0).2; have := (c4 h0).1; simp; omega
theorem FiI.part {bs fs : Blk} {at0 i at_ m f : Nat} {x : Str} (h : FiI bs at0 i fs at_) (hp : bs[i]? = some (x, m)) (h0 : 0 < at_) (hf : f = at_ / sz x) (hm : f < m) (ok : BOk bs) :
    (0 < at_ - f * sz x → FiI bs at0 (i + 1) (fs ++ [(x, f)] ++ [(strT (x.cps.toList.take (at_ - f * sz x)), 1)]) 0) ∧ (at_ - f * sz x = 0 → FiI bs at0 (i + 1) (fs ++ [(x, f)]) 0) := by
  obtain ⟨c, c1, c2, c3, c4⟩ := h.c
  have ho : 1 ≤ sz x ∧ sz x ≤ 30 ∧ m ≤ 100000000000000000 := ok _ (List.mem_of_getElem? hp)
  obtain ⟨r1, r2, r3, _⟩ := rep_lt (m := m) (tl_len x) ho.1 hf hm
  have ha := h.a
  have lr : (rep m x.cps.toList).length = m * sz x := by rw [rep_len, tl_len, Nat.mul_comm]
  have big : at_ ≤ m * sz x := by
    have : (f + 1) * sz x ≤ m * sz x := Nat.mul_le_mul_right _ hm
    rw [Nat.add_mul] at this
    omega
  have ln := (c4 h0).2
  have lc := (c4 h0).1
  have z1 : 0 = at0 - (bl (bs.take (i + 1))).length := by rw [take_bl hp, bl_app, List.length_append, bl_one, lr]; omega
  have hj : ∀ j, j < i + 1 → (bl (bs.take j)).length < at0 := fun j hj => by
    by_cases hj2 : j = i
    · subst hj2; omega
    · exact c2 j (by omega)
  have b1 : (bl (bs.take (i + 1))).take at0 = bl fs ++ (rep f x.cps.toList ++ x.cps.toList.take (at_ - f * sz x)) := by
    rw [take_bl hp, bl_app, bl_one, List.take_append, h.b, ← ha, r3]
  refine ⟨fun hr => ⟨?_, z1, (h.ok.app (.one ho.1 ho.2.1 (by show f ≤ _; have := ho.2.2; omega))).app (.one ?_ ?_ (by omega)), i + 1, by omega, hj, by simp; omega, fun z => by omega⟩, fun hr => ⟨?_, z1, h.ok.app (.one ho.1 ho.2.1 (by show f ≤ _; have := ho.2.2; omega)), i + 1, by omega, hj, by simp; omega, fun z => by omega⟩⟩
  · rw [b1, bl_app, bl_app, bl_one, bl_one, tl_strT, rep_succ, rep_zero, List.append_nil, List.append_assoc]
  · rw [sz_strT, List.length_take, tl_len]; omega
  · rw [sz_strT, List.length_take, tl_len]; omega
  · rw [b1, bl_app, bl_one, hr]; simp
def nz (fs : Blk) : Blk := fs.filter fun p => decide (0 < p.2)
theorem nz_app (a b : Blk) : nz (a ++ b) = nz a ++ nz b := List.filter_append ..
theorem nz_bl : ∀ (fs : Blk), bl (nz fs) = bl fs
  | [] => rfl
  | p :: fs => by
    unfold nz
    rw [List.filter_cons]
    split
    · rw [bl_cons, bl_cons]; congr 1; exact nz_bl fs
    · rename_i h
      have : p.2 = 0 := by simpa using h
      rw [bl_cons, this, rep_zero, List.nil_append]; exact nz_bl fs
theorem nz_len (fs : Blk) : (nz fs).length ≤ fs.length := List.length_filter_le ..
theorem nz_ok {fs : Blk} (h : BOk fs) : BOk (nz fs) := fun p hp => h p (List.mem_filter.mp hp).1
theorem nz_one (p : Str × Nat) : (nz [p]).length ≤ 1 := nz_len [p]
theorem nz_zero (x : Str) : nz [(x, 0)] = [] := rfl
/-- the blocks behind the first signs, of i blocks -/
structure ReI (bs : Blk) (at0 i : Nat) (fs : Blk) (at_ : Nat) : Prop where
  b : bl fs = (bl (bs.take i)).drop at0
  a : at_ = at0 - (bl (bs.take i)).length
  ok : BOk fs
  c : ∀ d, d ≤ bs.length → (bl (bs.take d)).length ≤ at0 → (nz fs).length + min d i ≤ i + 1 ∧ (0 < at_ → (nz fs).length + min d i ≤ i)
  l : fs.length ≤ 2 * i
theorem bl_mono {bs : Blk} {i j : Nat} (h : i ≤ j) : (bl (bs.take i)).length ≤ (bl (bs.take j)).length := by
  have : bs.take j = bs.take i ++ (bs.take j).drop i := by
    have h2 : bs.take i = (bs.take j).take i := by rw [List.take_take, Nat.min_eq_left h]
    rw [h2, List.take_append_drop]
  rw [this, bl_app, List.length_append]; omega
theorem ReI.zero {bs : Blk} {at0 : Nat} : ReI bs at0 0 [] at0 := ⟨by simp [bl_nil], by simp [bl_nil], fun p h => (nomatch h), fun d _ _ => ⟨by simp [nz], fun _ => by simp [nz]⟩, by simp⟩
theorem ReI.full {bs fs : Blk} {at0 i at_ m : Nat} {x : Str} (h : ReI bs at0 i fs at_) (hp : bs[i]? = some (x, m)) (hm : m ≤ at_ / sz x) (ok : BOk bs) : ReI bs at0 (i + 1) (fs ++ [(x, 0)]) (at_ - m * sz x) := by
  have ho : 1 ≤ sz x ∧ sz x ≤ 30 ∧ m ≤ 100000000000000000 := ok _ (List.mem_of_getElem? hp)
  obtain ⟨r1, r2, r3⟩ := rep_ge (m := m) (tl_len x) ho.1 hm
  have ha := h.a
  have lr : (rep m x.cps.toList).length = m * sz x := by rw [rep_len, tl_len, Nat.mul_comm]
  have hl := h.l
  refine ⟨?_, ?_, h.ok.app (.one ho.1 ho.2.1 (by omega)), fun d hd1 hd2 => ?_, by simp; omega⟩
  · rw [take_bl hp, bl_app, bl_app, bl_one, bl_one, rep_zero, List.append_nil, List.drop_append, h.b, ← ha, r3, List.append_nil]
  · rw [take_bl hp, bl_app, List.length_append, bl_one, lr]; omega
  · obtain ⟨c1, c2⟩ := h.c d hd1 hd2
    rw [nz_app, nz_zero, List.append_nil]
    exact ⟨by omega, fun z => by have := c2 (by omega); omega⟩
theorem ReI.part {bs fs : Blk} {at0 i at_ m f : Nat} {x : Str} (h : ReI bs at0 i fs at_) (hp : bs[i]? = some (x, m)) (hf : f = at_ / sz x) (hm : f < m) (ok : BOk bs) :
    (0 < at_ - f * sz x → ReI bs at0 (i + 1) (fs ++ [(strT (x.cps.toList.drop (at_ - f * sz x)), 1)] ++ [(x, m - (f + 1))]) 0) ∧ (at_ - f * sz x = 0 → ReI bs at0 (i + 1) (fs ++ [(x, m - f)]) 0) := by
  have ho : 1 ≤ sz x ∧ sz x ≤ 30 ∧ m ≤ 100000000000000000 := ok _ (List.mem_of_getElem? hp)
  obtain ⟨r1, r2, _, r3⟩ := rep_lt (m := m) (tl_len x) ho.1 hf hm
  have ha := h.a
  have lr : (rep m x.cps.toList).length = m * sz x := by rw [rep_len, tl_len, Nat.mul_comm]
  have hl := h.l
  have big1 : (f + 1) * sz x ≤ m * sz x := Nat.mul_le_mul_right _ hm
  rw [Nat.add_mul] at big1
  have z1 : 0 = at0 - (bl (bs.take (i + 1))).length := by rw [take_bl hp, bl_app, List.length_append, bl_one, lr]; omega
  have b1 : (bl (bs.take (i + 1))).drop at0 = bl fs ++ (x.cps.toList.drop (at_ - f * sz x) ++ rep (m - f - 1) x.cps.toList) := by
    rw [take_bl hp, bl_app, bl_one, List.drop_append, h.b, ← ha, r3]
  have nd : ∀ d, d ≤ bs.length → (bl (bs.take d)).length ≤ at0 → d ≤ i := fun d _ hd => by
    apply Classical.byContradiction
    intro hc
    have := bl_mono (bs := bs) (show i + 1 ≤ d by omega)
    rw [take_bl hp, bl_app, List.length_append, bl_one, lr] at this
    omega
  refine ⟨fun hr => ⟨?_, z1, (h.ok.app (.one ?_ ?_ (by omega))).app (.one ho.1 ho.2.1 (by have := ho.2.2; omega)), fun d hd1 hd2 => ?_, by simp; omega⟩, fun hr => ⟨?_, z1, h.ok.app (.one ho.1 ho.2.1 (by have := ho.2.2; omega)), fun d hd1 hd2 => ?_, by simp; omega⟩⟩
  · rw [b1, bl_app, bl_app, bl_one, bl_one, tl_strT, rep_succ, rep_zero, List.append_nil, List.append_assoc, Nat.sub_sub]
  · rw [sz_strT, List.length_drop, tl_len]; omega
  · rw [sz_strT, List.length_drop, tl_len]; omega
  · obtain ⟨c1, c2⟩ := h.c d hd1 hd2
    have := nd d hd1 hd2
    rw [nz_app, nz_app, List.length_append, List.length_append]
    have k1 := nz_one (strT (x.cps.toList.drop (at_ - f * sz x)), 1)
    have k2 := nz_one (x, m - (f + 1))
    have := c2 (by omega)
    exact ⟨by omega, fun z => by omega⟩
  · rw [b1, bl_app, bl_one, hr, List.drop_zero]
    congr 1
    have e : m - f = (m - f - 1) + 1 := by omega
    rw [e, rep_succ]; simp
  · obtain ⟨c1, c2⟩ := h.c d hd1 hd2
    have := nd d hd1 hd2
    rw [nz_app, List.length_append]
    have k2 := nz_one (x, m - f)
    exact ⟨by omega, fun z => by omega⟩
end SW
end

section
set_option Elab.async false
set_option linter.all false
set_option maxRecDepth 100000
set_option maxHeartbeats 4000000
/-! k85: drawing. -/
namespace SW
open PySem L2
set_option synthInstance.maxHeartbeats 200000
set_option synthInstance.maxSize 100000
class LawD (defs : Nat → Option FDef) : Prop where
  h201 : defs 201 = some d_law_mixed
  h202 : defs 202 = some d_law_stream
  h203 : defs 203 = some d_law_take
  h204 : defs 204 = some d_law_plain
  h205 : defs 205 = some d_law_long
  h206 : defs 206 = some d_law_first
  h207 : defs 207 = some d_law_rest
  h208 : defs 208 = some d_law_signs
  h209 : defs 209 = some d_law_same
  h210 : defs 210 = some d_law_deed
  h211 : defs 211 = some d_law
theorem Ls.sub {kl : Addr → List V → Prop} {g g' : G} {a : Addr} {xs : List V} (s : Sub g g') (h : Ls kl g a xs) : Ls kl g' a xs := h.elim (fun h => .inl (s _ _ h)) .inr
section
variable {kl : Addr → List V → Prop} {bs : Nat → SpG} {defs : Nat → Option FDef} {k : Nat} {g : G} {Q : VG} {E : XG} {a st sc : Addr} {S S' : Sh} [ld : LawD defs]
theorem l_mixed {c : Int} {i : Nat} (hi : i < 1000) (hk : 1 ≤ k) (q : ∀ m : Nat, m < 2147483647 → Q (.int m) g) : Gam kl bs defs k 201 [.int c, .int i] g Q E := by
  obtain ⟨k, rfl⟩ : ∃ j, k = j + 1 := ⟨k - 1, by omega⟩
  refine gam_of ld.h201 rfl ?_
  show b_law_mixed _ _ [some (.int c), some (.int i), none] _
  unfold b_law_mixed
  have big : (2 : Nat) ^ 20000 > 2 ^ 100 := by decide +kernel
  have b100 : (2 : Nat) ^ 100 = 1267650600228229401496703205376 := by decide +kernel
  have h0 := Int.emod_nonneg c (show (1000000007 : Int) ≠ 0 by omega)
  have h1 := Int.emod_lt_of_pos c (show (0 : Int) < 1000000007 by omega)
  repeat refine go ?_
  refine ⟨by omega, ?_⟩
  repeat refine go ?_
  refine ⟨cmulw (by show (7919 : Nat) < _; omega) (by rw [Int.natAbs_natCast]; omega), ?_⟩
  repeat refine go ?_
  refine ⟨cmulw (by omega) (by show (48271 : Nat) < _; omega), ?_⟩
  repeat refine go ?_
  refine ⟨by omega, ?_⟩
  generalize hx : (c % 1000000007 + 7919 * (i : Int) + 101) * 48271 % 2147483647 = x
  have x0 : 0 ≤ x := by rw [← hx]; exact Int.emod_nonneg _ (by omega)
  have x1 : x < 2147483647 := by rw [← hx]; exact Int.emod_lt_of_pos _ (by omega)
  repeat refine go ?_
  refine ⟨cmulw (by omega) (by omega), ?_⟩
  repeat refine go ?_
  refine ⟨by omega, ?_⟩
  generalize hy : x * x % 2147483629 = y
  have y0 : 0 ≤ y := by rw [← hy]; exact Int.emod_nonneg _ (by omega)
  have y1 : y < 2147483629 := by rw [← hy]; exact Int.emod_lt_of_pos _ (by omega)
  repeat refine go ?_
  refine ⟨cmulw (by omega) (by show (69621 : Nat) < _; omega), ?_⟩
  repeat refine go ?_
  refine ⟨by omega, ?_⟩
  have z0 : 0 ≤ y * 69621 % 2147483647 := Int.emod_nonneg _ (by omega)
  have z1 : y * 69621 % 2147483647 < 2147483647 := Int.emod_lt_of_pos _ (by omega)
  obtain ⟨m, hm⟩ := Int.eq_ofNat_of_zero_le z0
  rw [hm]
  exact fin (q m (by omega))
theorem l_take {d m : Nat} [h : At g st (.lst [.int d])] (hm : 0 < m) (hm2 : m < 2 ^ 900) (hk : 1 ≤ k) (q : Q (.int ((d % m : Nat) : Int)) (gu g st (.lst [.int ((d / m : Nat) : Int)]))) : Gam kl bs defs k 203 [.ref st, .int m] g Q E := by
  obtain ⟨k, rfl⟩ : ∃ j, k = j + 1 := ⟨k - 1, by omega⟩
  refine gam_of ld.h203 rfl ?_
  show b_law_take _ _ [some (.ref st), some (.int m), none] _
  unfold b_law_take
  repeat refine go ?_
  refine ⟨.int d, rfl, ?_⟩
  repeat refine go ?_
  refine ⟨by omega, ?_⟩
  repeat refine go ?_
  refine ⟨.int d, rfl, ?_⟩
  have hl := log_lt hm2 (by omega)
  repeat refine go ?_
  refine ⟨⟨by omega, by rw [Int.natAbs_natCast]; omega⟩, ?_⟩
  repeat refine go ?_
  refine ⟨st, rfl, .inl ⟨[.int d], 0, 0, rfl, h.h, rfl, ?_⟩⟩
  repeat refine go ?_
  have e1 : ((d : Int) / (m : Int)) = ((d / m : Nat) : Int) := by rw [Int.natCast_ediv]
  have e2 : ((d : Int) % (m : Int)) = ((d % m : Nat) : Int) := by rw [Int.natCast_emod]
  rw [e1, e2]
  exact ⟨_, Sub.refl _, q⟩
/-- a number is drawn -/
theorem l_draw {d m : Nat} [h : At g st (.lst [.int d])] (hm : 0 < m) (hm2 : m ≤ 10 ^ 40) (hk : 1 ≤ k) (q : ∀ r d' : Nat, r < m → Q (.int r) (gu g st (.lst [.int d']))) : Gam kl bs defs k 203 [.ref st, .int m] g Q E :=
  l_take hm (Nat.lt_of_le_of_lt hm2 (by decide +kernel)) hk (q _ _ (Nat.mod_lt _ hm))
theorem pow_step {B f n j : Nat} (hf : f < B ^ j) (hn : n < B) : f * B + n < B ^ (j + 1) := by
  rw [Nat.pow_succ]
  have h2 : (f + 1) * B ≤ B ^ j * B := Nat.mul_le_mul_right _ hf
  rw [Nat.add_mul, Nat.one_mul] at h2
  exact Nat.lt_of_lt_of_le (Nat.add_lt_add_left hn _) h2
theorem int_sum {l : List Int} (h : ∀ x ∈ l, 0 ≤ x) : 0 ≤ l.sum := by
  induction l with
  | nil => simp
  | cons x r ih =>
    have := ih fun y hy => h y (List.mem_cons_of_mem _ hy)
    have := h x List.mem_cons_self
    rw [List.sum_cons]; omega
theorem l_stream {ns : List Int} {k0 : Nat} (hs : Ls kl g sc (ns.map V.int)) (hl : ns.length ≤ 63) (hk0 : k0 ≤ 7) (hk : 2 ≤ k) (q : ∀ (g' : G) (d : Nat) (p : Addr), Sub g g' → g p = none → g' p = some (.lst [.int d]) → Q (.ref p) g') : Gam kl bs defs k 202 [.ref sc, .int k0] g Q E := by
  obtain ⟨k, rfl⟩ : ∃ j, k = j + 1 := ⟨k - 1, by omega⟩
  refine gam_of ld.h202 rfl ?_
  show b_law_stream _ _ [some (.ref sc), some (.int k0), none, none, none, none] _
  unfold b_law_stream
  have p60 : CPow 10 60 := ⟨by decide, by decide, by decide +kernel⟩
  have p18 : CPow 10 18 := ⟨by decide, by decide, by decide +kernel⟩
  have e60 : (10 : Int) ^ (60 : Int).toNat * (10 : Int) ^ (60 : Int).toNat = ((10 ^ 120 : Nat) : Int) := by decide +kernel
  have e18 : (10 : Int) ^ (18 : Int).toNat = ((10 ^ 18 : Nat) : Int) := by decide +kernel
  have t60 : ((10 : Int) ^ (60 : Int).toNat).natAbs < 2 ^ 20000 := by decide +kernel
  have t120 : (10 ^ 120 : Nat) < 2 ^ 20000 := by decide +kernel
  have big : (2 : Nat) ^ 20000 > 2 ^ 100 := by decide +kernel
  have b100 : (2 : Nat) ^ 100 = 1267650600228229401496703205376 := by decide +kernel
  have pos120 : 0 < (10 ^ 120 : Nat) := by decide +kernel
  have hsz : sizeLine = 16777216 := rfl
  repeat refine go ?_
  refine .inl ⟨_, .inl hs, ?_⟩
  rw [List.length_map]
  repeat refine go ?_
  generalize hm : (ns.length - k0 + 7) / 8 = m
  refine ⟨k0, ns.length, 8, m, rfl, rfl, rfl, rgUp (c := 8) (by omega) (by omega) (.inr (.inl rfl)) (by omega), ?_⟩
  refine ⟨fun j s g2 => j ≤ m ∧ ∃ (f : Nat) (v : Option V), f < (10 ^ 120) ^ j ∧ s = [some (.ref sc), some (.int k0), some (.int f), v, none, none] ∧ g = g2, ⟨by omega, 0, none, by rw [Nat.pow_zero]; omega, rfl, rfl⟩, ?_⟩
  rintro j s g2 ⟨hj, f, v, hf, rfl, rfl⟩
  refine ⟨trivial, ?_⟩
  show if j < m then _ else _
  by_cases hlt : j < m
  · rw [if_pos hlt]
    refine go ?_
    have ej : ((k0 : Int) + (j : Int) * 8) = ((k0 + j * 8 : Nat) : Int) := by omega
    rw [ej]
    have hf2 : f < 2 ^ 20000 := Nat.lt_of_lt_of_le hf (by
      have : (10 ^ 120 : Nat) ^ j ≤ (10 ^ 120) ^ 8 := Nat.pow_le_pow_right (by omega) (by omega)
      have h2 : (10 ^ 120 : Nat) ^ 8 < 2 ^ 20000 := by decide +kernel
      omega)
    repeat refine go ?_
    refine ⟨p60, ?_⟩
    repeat refine go ?_
    refine ⟨p60, ?_⟩
    repeat refine go ?_
    refine ⟨cmulw t60 t60, ?_⟩
    rw [e60]
    repeat refine go ?_
    refine ⟨cmulw (by rw [Int.natAbs_natCast]; exact hf2) (by rw [Int.natAbs_natCast]; exact t120), ?_⟩
    repeat refine go ?_
    have hjl : k0 + j * 8 < ns.length := by omega
    refine .inl ⟨_, _, _, rfl, .inl hs, atI_nat (by rw [List.length_map]; exact hjl), ?_⟩
    rw [List.getElem_map]
    repeat refine go ?_
    refine ⟨p60, ?_⟩
    repeat refine go ?_
    refine ⟨p60, ?_⟩
    repeat refine go ?_
    refine ⟨cmulw t60 t60, ?_⟩
    rw [e60]
    have c0 := Int.emod_nonneg ns[k0 + j * 8] (show ((10 ^ 120 : Nat) : Int) ≠ 0 by omega)
    have c1 := Int.emod_lt_of_pos ns[k0 + j * 8] (show (0 : Int) < ((10 ^ 120 : Nat) : Int) by omega)
    repeat refine go ?_
    refine ⟨by omega, ?_⟩
    generalize ns[k0 + j * 8] % ((10 ^ 120 : Nat) : Int) = x at *
    obtain ⟨n, rfl⟩ := nat_of c0
    repeat refine go ?_
    refine ⟨_, Sub.refl _, by omega, f * 10 ^ 120 + n, some (.int ((k0 + j * 8 : Nat) : Int)), ?_, ?_, rfl⟩
    · exact pow_step hf (Int.ofNat_lt.mp c1)
    · have e9 : ((f * 10 ^ 120 + n : Nat) : Int) = (f : Int) * ((10 ^ 120 : Nat) : Int) + (n : Int) := by rw [Int.natCast_add, Int.natCast_mul]
      rw [e9]
  · rw [if_neg hlt]
    dsimp only
    repeat refine go ?_
    refine ⟨p18, ?_⟩
    rw [e18]
    repeat refine go ?_
    by_cases hb : ((10 ^ 18 : Nat) : Int) ≤ (f : Int)
    · refine ifD hb ?_
      repeat refine go ?_
      refine ⟨by simp [sizeLine], fun p fp => ?_⟩
      exact ⟨_, Sub.refl _, q _ f p (Sub.new fp.h) fp.h gus⟩
    · refine ifDn hb ?_
      repeat refine go ?_
      refine .inl ⟨_, hs, ?_⟩
      have lenq : (Sq.lst sc (ns.map V.int)).len = ns.length := by simp [Sq.len]
      refine lc_of (fun i => (ns[i]?).map fun c => V.int (c % ((10 ^ 18 : Nat) : Int))) (by rw [lenq]; omega) (fun D acc hD => hs.sub (Sub.new hD)) (fun D i hD hi KY KN hy hn => ?_) (fun D hD => ?_)
      · rw [lenq] at hi
        refine go ?_
        intro x hx
        have e1 : (ns.map V.int)[i]? = some (.int ns[i]) := by simp [hi]
        rw [e1] at hx
        cases hx
        show (gN 5) _ _ [some (.ref sc), some (.int k0), some (.int f), v, none, none] _ _
        repeat refine go ?_
        refine ⟨rfl, ?_⟩
        repeat refine go ?_
        refine ⟨p18, ?_⟩
        rw [e18]
        repeat refine go ?_
        refine ⟨by omega, ?_⟩
        exact hy _ _ (by rw [List.getElem?_eq_getElem hi]; rfl) (Sub.refl _)
      · rw [fm_all ns _ lenq]
        repeat refine go ?_
        refine ⟨D, ns.map fun c => c % ((10 ^ 18 : Nat) : Int), rfl, .inl (by rw [gus, List.map_map]; rfl), ?_⟩
        repeat refine go ?_
        have hsum : 0 ≤ (ns.map fun c => c % ((10 ^ 18 : Nat) : Int)).sum := int_sum fun x hx => by
          obtain ⟨y, _, rfl⟩ := List.mem_map.mp hx
          exact Int.emod_nonneg _ (by omega)
        generalize (ns.map fun c => c % ((10 ^ 18 : Nat) : Int)).sum = sm at *
        refine ⟨by omega, by omega, ?_⟩
        have hs' := hs.sub (Sub.new (o := .lst (List.map (fun c => V.int (c % ((10 ^ 18 : Nat) : Int))) ns)) hD)
        refine ⟨fun j s g2 => j ≤ 16 ∧ ∃ (f2 : Nat) (v : Option V), f2 < 2147483648 ^ j ∧ s = [some (.ref sc), some (.int k0), some (.int ((f : Int) + sm)), v, some (.int f2), none] ∧ g2 = (gu g D (.lst (List.map (fun c => V.int (c % ((10 ^ 18 : Nat) : Int))) ns))), ⟨by omega, 0, _, by omega, rfl, rfl⟩, ?_⟩
        rintro j s g2 ⟨hj, f2, v, hf, rfl, rfl⟩
        refine ⟨trivial, ?_⟩
        show if j < 16 then _ else _
        by_cases hlt : j < 16
        · rw [if_pos hlt]
          refine go ?_
          have ej : (0 + (j : Int) * 1) = (j : Int) := by omega
          rw [ej]
          have hf2 : f2 < 2 ^ 20000 := Nat.lt_of_lt_of_le hf (by
            have : (2147483648 : Nat) ^ j ≤ 2147483648 ^ 16 := Nat.pow_le_pow_right (by omega) (by omega)
            have h2 : (2147483648 : Nat) ^ 16 < 2 ^ 20000 := by decide +kernel
            omega)
          repeat refine go ?_
          refine ⟨cmulw (by rw [Int.natAbs_natCast]; exact hf2) (by show (2147483647 : Nat) < _; omega), ?_⟩
          repeat refine go ?_
          refine ⟨cmulw (by show (1009 : Nat) < _; omega) (by rw [Int.natAbs_natCast]; omega), ?_⟩
          repeat refine go ?_
          refine .inl ⟨_, .inl hs', ?_⟩
          repeat refine go ?_
          refine l_mixed (by omega) (by omega) fun m hm => ?_
          repeat refine go ?_
          refine ⟨_, Sub.refl _, by omega, f2 * 2147483647 + m, some (.int j), ?_, ?_, rfl⟩
          · rw [Nat.pow_succ]
            omega
          · rw [Int.natCast_add, Int.natCast_mul]; rfl
        · rw [if_neg hlt]
          dsimp only
          repeat refine go ?_
          refine ⟨by simp [sizeLine], fun p fp => ?_⟩
          exact ⟨_, Sub.refl _, q _ f2 p ((Sub.new hD).trans (Sub.new fp.h)) fp.of_gu.h gus⟩
theorem l_plain {d most : Nat} [h : At g st (.lst [.int d])] (hm : most < 100000) (hk : 2 ≤ k) (q : ∀ (x : Str) (d' : Nat), plainB x = true → sz x ≤ most → Q (.str x) (gu g st (.lst [.int d']))) : Gam kl bs defs k 204 [.ref st, .int most] g Q E := by
  obtain ⟨k, rfl⟩ : ∃ j, k = j + 1 := ⟨k - 1, by omega⟩
  refine gam_of ld.h204 rfl ?_
  show b_law_plain _ _ [some (.ref st), some (.int most), none, none, none] _
  unfold b_law_plain
  have hs : sizeLine = 16777216 := rfl
  have b40 : (10 : Nat) ^ 40 > 10 ^ 20 := by decide +kernel
  have b20 : (10 : Nat) ^ 20 = 100000000000000000000 := by decide +kernel
  repeat refine go ?_
  refine ⟨by simp [sizeLine], fun p fp => ?_⟩
  haveI n1 : NeA st p := NeA.of_fr h fp
  haveI n2 := n1.symm
  repeat refine go ?_
  refine l_draw (m := 5) (by omega) (by omega) (by omega) fun r d1 hr => ?_
  repeat refine go ?_
  obtain ⟨sg, hsg, es, p1, p2, p3⟩ : ∃ sg : Str, True ∧ atI [V.str "ab", .str "aaab", .str "a\n", .str "ab \n", .str "abcdefghijklmnopqrstuvwxyz 0123456789.,~\n"] (r : Int) = some (.str sg) ∧ plainB sg = true ∧ 1 ≤ sz sg ∧ sz sg ≤ 200 := by
    match r, hr with
    | 0, _ => exact ⟨_, trivial, rfl, by decide +kernel, by decide +kernel, by decide +kernel⟩
    | 1, _ => exact ⟨_, trivial, rfl, by decide +kernel, by decide +kernel, by decide +kernel⟩
    | 2, _ => exact ⟨_, trivial, rfl, by decide +kernel, by decide +kernel, by decide +kernel⟩
    | 3, _ => exact ⟨_, trivial, rfl, by decide +kernel, by decide +kernel, by decide +kernel⟩
    | 4, _ => exact ⟨_, trivial, rfl, by decide +kernel, by decide +kernel, by decide +kernel⟩
  refine ⟨_, es, ?_⟩
  repeat refine go ?_
  have em : ((most : Int) + 1) = ((most + 1 : Nat) : Int) := by omega
  rw [em]
  refine l_draw (by omega) (by omega) (by omega) fun n d2 hn => ?_
  rw [gu_gu]
  repeat refine go ?_
  refine ⟨by omega, by omega, ?_⟩
  rw [Int.toNat_natCast]
  have sub0 : ∀ d', Sub (gu g st (.lst [.int d'])) (gu (gu g p (.lst [.str "ab", .str "aaab", .str "a\n", .str "ab \n", .str "abcdefghijklmnopqrstuvwxyz 0123456789.,~\n"])) st (.lst [.int d'])) := fun d' => Sub.gu (Sub.new fp.h)
  refine ⟨fun j s g2 => j ≤ n ∧ ∃ (d' : Nat) (x : Str) (v : Option V), plainB x = true ∧ sz x ≤ j ∧ s = [some (.ref st), some (.int most), some (.str sg), some (.str x), v] ∧ g2 = gu (gu g p (.lst [.str "ab", .str "aaab", .str "a\n", .str "ab \n", .str "abcdefghijklmnopqrstuvwxyz 0123456789.,~\n"])) st (.lst [.int d']), ⟨by omega, _, _, none, by decide +kernel, by decide +kernel, rfl, rfl⟩, ?_⟩
  rintro j s g2 ⟨hj, d', x, v, hx, hx2, rfl, rfl⟩
  refine ⟨trivial, ?_⟩
  show if j < n then _ else _
  have l1 : x.length = sz x := rfl
  have l2 : sg.length = sz sg := rfl
  by_cases hlt : j < n
  · rw [if_pos hlt]
    refine go ?_
    have ej : (0 + (j : Int) * 1) = (j : Int) := by omega
    rw [ej]
    repeat refine go ?_
    refine ⟨by omega, ?_⟩
    repeat refine go ?_
    rw [show ((sg.length : Nat) : Int) = ((sz sg : Nat) : Int) from rfl]
    refine l_draw (by omega) (by omega) (by omega) fun ix d3 hix => ?_
    rw [gu_gu]
    have hi : ix < sg.cps.toList.length := by rw [tl_len]; exact hix
    refine ⟨_, _, rfl, by omega, atI_nat hi, ?_⟩
    have lc : (⟨#[sg.cps.toList[ix]]⟩ : Str).length = 1 := rfl
    repeat refine go ?_
    refine ⟨by omega, ?_⟩
    repeat refine go ?_
    refine ⟨_, Sub.refl _, by omega, _, _, _, plain_cat hx ?_, ?_, rfl, rfl⟩
    · unfold plainB at *
      rw [List.all_eq_true] at p1
      show ([sg.cps.toList[ix]].all _) = true
      rw [List.all_cons, List.all_nil, Bool.and_true]
      exact p1 _ (List.getElem_mem _)
    · rw [sz_cat]
      show sz x + 1 ≤ _
      omega
  · rw [if_neg hlt]
    dsimp only
    repeat refine go ?_
    exact ⟨_, sub0 d', q x d' hx (by omega)⟩
end
end SW
end

section
set_option Elab.async false
set_option linter.all false
set_option maxRecDepth 100000
set_option maxHeartbeats 4000000
/-! k85: blocks on the heap. -/
namespace SW
open PySem L2
set_option synthInstance.maxHeartbeats 200000
set_option synthInstance.maxSize 100000
inductive Ents (g : G) : List Addr → Blk → Prop
  | nil : Ents g [] []
  | cons {e : Addr} {x : Str} {m : Nat} {es : List Addr} {bs : Blk} : g e = some (.tup [.str x, .int (m : Nat)]) → Ents g es bs → Ents g (e :: es) ((x, m) :: bs)
theorem Ents.sub {g g' : G} (s : Sub g g') : ∀ {es : List Addr} {bs : Blk}, Ents g es bs → Ents g' es bs
  | _, _, .nil => .nil
  | _, _, .cons h t => .cons (s _ _ h) (Ents.sub s t)
theorem Ents.len {g : G} : ∀ {es : List Addr} {bs : Blk}, Ents g es bs → es.length = bs.length
  | _, _, .nil => rfl
  | _, _, .cons h t => by rw [List.length_cons, List.length_cons, Ents.len t]
theorem Ents.get {g : G} : ∀ {es : List Addr} {bs : Blk} {i : Nat} {e : Addr}, Ents g es bs → es[i]? = some e → ∃ x m, bs[i]? = some (x, m) ∧ g e = some (.tup [.str x, .int (m : Nat)])
  | _, _, _, _, .nil, h => by simp at h
  | _, _, 0, _, .cons h _, e1 => by simp at e1; subst e1; exact ⟨_, _, rfl, h⟩
  | _, _, i + 1, _, .cons _ t, e1 => by
    obtain ⟨x, m, h1, h2⟩ := Ents.get t (show _ = _ by simpa using e1)
    exact ⟨x, m, by simpa using h1, h2⟩
theorem Ents.app {g : G} : ∀ {es fs : List Addr} {bs cs : Blk}, Ents g es bs → Ents g fs cs → Ents g (es ++ fs) (bs ++ cs)
  | _, _, _, _, .nil, k => k
  | _, _, _, _, .cons h t, k => .cons h (Ents.app t k)
theorem ents_keep {g g' : G} {F : Addr} {xs : List V} : ∀ {es : List Addr} {bs : Blk}, Ents g es bs → g F = some (.lst xs) → (∀ b o, b ≠ F → g b = some o → g' b = some o) → Ents g' es bs
  | _, _, .nil, _, _ => .nil
  | _, _, .cons h t, hF, k => .cons (k _ _ (fun z => by rw [z, hF] at h; cases h) h) (ents_keep t hF k)
/-- a list of blocks -/
structure BlAt (g : G) (a : Addr) (bs : Blk) : Prop where
  ex : ∃ es : List Addr, g a = some (.lst (es.map V.ref)) ∧ Ents g es bs
theorem BlAt.sub {g g' : G} {a : Addr} {bs : Blk} (s : Sub g g') (h : BlAt g a bs) : BlAt g' a bs := by
  obtain ⟨es, h1, h2⟩ := h.ex
  exact ⟨es, s _ _ h1, h2.sub s⟩
def nzE : List Addr → Blk → List Addr
  | e :: es, p :: bs => if 0 < p.2 then e :: nzE es bs else nzE es bs
  | _, _ => []
theorem nzE_ok {g : G} : ∀ {es : List Addr} {bs : Blk}, Ents g es bs → Ents g (nzE es bs) (nz bs)
  | _, _, .nil => .nil
  | _, _, .cons (x := x) (m := m) (bs := bs) h t => by
    unfold nzE nz
    rw [List.filter_cons]
    by_cases hm : 0 < m
    · rw [if_pos hm, if_pos (by simpa using hm)]; exact .cons h (nzE_ok t)
    · rw [if_neg hm, if_neg (by simpa using hm)]; exact nzE_ok t
def nzF (es : List Addr) (bs : Blk) (i : Nat) : Option V := match es[i]?, bs[i]? with
  | some e, some p => if 0 < p.2 then some (.ref e) else none
  | _, _ => none
theorem nzF_eq : ∀ (es : List Addr) (bs : Blk), es.length = bs.length → (List.range es.length).filterMap (nzF es bs) = (nzE es bs).map V.ref
  | [], [], _ => rfl
  | e :: es, p :: bs, h => by
    have ih := nzF_eq es bs (by simpa using h)
    rw [List.length_cons, List.range_succ_eq_map, List.filterMap_cons]
    have e1 : (List.map Nat.succ (List.range es.length)).filterMap (nzF (e :: es) (p :: bs)) = (List.range es.length).filterMap (nzF es bs) := by
      rw [List.filterMap_map]
      congr 1
    have e0 : nzF (e :: es) (p :: bs) 0 = if 0 < p.2 then some (.ref e) else none := rfl
    have e2 : nzE (e :: es) (p :: bs) = if 0 < p.2 then e :: nzE es bs else nzE es bs := rfl
    rw [e1, ih, e0, e2]
    split
    · rename_i h2; split at h2
      · cases h2
      · rename_i h3; rw [if_neg h3]
    · rename_i v h2; split at h2
      · rename_i h3; cases h2; rw [if_pos h3]; rfl
      · cases h2
  | [], _ :: _, h => by simp at h
  | _ :: _, [], h => by simp at h
theorem long_sum : ∀ bs : Blk, (bs.map fun p => ((sz p.1 * p.2 : Nat) : Int)).sum = ((bl bs).length : Int)
  | [] => rfl
  | p :: bs => by
    rw [List.map_cons, List.sum_cons, long_sum bs, bl_cons, List.length_append, rep_len, tl_len]
    omega
section
variable {kl : Addr → List V → Prop} {bs_ : Nat → SpG} {defs : Nat → Option FDef} {k : Nat} {g : G} {Q : VG} {E : XG} {a st : Addr} {S S' : Sh} [ld : LawD defs] {bs : Blk}
theorem l_long (h : BlAt g a bs) (ok : BOk bs) (hn : bs.length ≤ 1000) (hk : 1 ≤ k) (q : Q (.int ((bl bs).length : Nat)) g) : Gam kl bs_ defs k 205 [.ref a] g Q E := by
  obtain ⟨k, rfl⟩ : ∃ j, k = j + 1 := ⟨k - 1, by omega⟩
  obtain ⟨es, h1, h2⟩ := h.ex
  haveI i1 : At g a _ := ⟨h1⟩
  have hl := h2.len
  have hs : sizeLine = 16777216 := rfl
  have big : (2 : Nat) ^ 20000 > 2 ^ 100 := by decide +kernel
  have b100 : (2 : Nat) ^ 100 = 1267650600228229401496703205376 := by decide +kernel
  refine gam_of ld.h205 rfl ?_
  show b_law_long _ _ [some (.ref a), none, none] _
  unfold b_law_long
  repeat refine go ?_
  have lenq : (Sq.lst a (es.map V.ref)).len = bs.length := by simp [Sq.len, hl]
  refine lc_of (fun i => (bs[i]?).map fun p => V.int ((sz p.1 * p.2 : Nat) : Int)) (by rw [lenq]; omega) (fun D acc hD => .inl (Sub.new hD _ _ h1)) (fun D i hD hi KY KN hy hn => ?_) (fun D hD => ?_)
  · rw [lenq] at hi
    refine go ?_
    intro v hv
    have hi2 : i < es.length := by omega
    have e1 : (es.map V.ref)[i]? = some (.ref es[i]) := by simp [hi2]
    rw [e1] at hv
    cases hv
    obtain ⟨x, m, e2, e3⟩ := h2.get (List.getElem?_eq_getElem hi2)
    have ho := ok _ (List.mem_of_getElem? e2)
    dsimp only at ho
    haveI i2 : At g es[i] _ := ⟨e3⟩
    haveI : Fr g D := ⟨hD⟩
    show (gTp [1, 2]) _ _ [some (.ref a), none, none] _ _
    repeat refine go ?_
    refine ⟨rfl, ?_⟩
    refine ⟨rfl, ?_⟩
    repeat refine go ?_
    refine ⟨by show sz x ≤ _; omega, ?_⟩
    repeat refine go ?_
    have ex : x.length = sz x := rfl
    refine ⟨cmulw (by omega) (by omega), ?_⟩
    refine hy _ _ ?_ (Sub.refl _)
    rw [e2, ex]
    show some (V.int _) = _
    rw [Int.natCast_mul]
  · rw [fm_all bs _ lenq]
    repeat refine go ?_
    refine ⟨D, bs.map fun p => ((sz p.1 * p.2 : Nat) : Int), rfl, .inl (by rw [gus, List.map_map]; rfl), ?_⟩
    rw [long_sum]
    exact ⟨g, Sub.new hD, q⟩
/-- the filter at the end of first and rest -/
theorem l_nz {F : Addr} {fas : List Addr} {fs : Blk} {x0 x1 x3 x4 x5 : Option V} {fn : Nat → SpG} {er : Nat → L2.St → G → Prop} (hF : g F = some (.lst (fas.map V.ref))) (he : Ents g fas fs) (hn : fs.length ≤ 10000)
    (q : ∀ r, g r = none → Q (.ref r) (gu g r (.lst ((nzE fas fs).map V.ref)))) :
    eLc (iVal (eV 2)) (gN 6) (tBl (eCmp .Gt (eIx (eV 6) (eC (.int 1))) (eC (.int 0)))) (eV 6) [6] ⟨kl, fn, er⟩ [x0, x1, some (.ref F), x3, x4, x5, none] g Q := by
  haveI i1 : At g F _ := ⟨hF⟩
  have hl := he.len
  have hs : sizeLine = 16777216 := rfl
  repeat refine go ?_
  have lenq : (Sq.lst F (fas.map V.ref)).len = fas.length := by simp [Sq.len]
  refine lc_of (nzF fas fs) (by rw [lenq]; omega) (fun D acc hD => .inl (Sub.new hD _ _ hF)) (fun D i hD hi KY KN hy hn => ?_) (fun D hD => ?_)
  · rw [lenq] at hi
    refine go ?_
    intro v hv
    have e1 : (fas.map V.ref)[i]? = some (.ref fas[i]) := by simp [hi]
    rw [e1] at hv
    cases hv
    obtain ⟨x, m, e2, e3⟩ := he.get (List.getElem?_eq_getElem hi)
    haveI i2 : At g fas[i] _ := ⟨e3⟩
    haveI : Fr g D := ⟨hD⟩
    show (gN 6) _ _ [x0, x1, some (.ref F), x3, x4, x5, none] _ _
    repeat refine go ?_
    refine ⟨rfl, ?_⟩
    repeat refine go ?_
    refine ⟨_, rfl, ?_⟩
    repeat refine go ?_
    have ef : nzF fas fs i = if 0 < m then some (.ref fas[i]) else none := by
      unfold nzF; rw [List.getElem?_eq_getElem hi, e2]
    by_cases hm : 0 < m
    · refine ifD (by omega) ?_
      repeat refine go ?_
      exact hy _ _ (by rw [ef, if_pos hm]) (Sub.refl _)
    · refine ifDn (by omega) ?_
      exact hn _ (by rw [ef, if_neg hm]) (Sub.refl _)
  · rw [lenq, nzF_eq fas fs hl]
    exact q D hD
/-- behind first -/
structure FirstT (bs : Blk) (at0 : Nat) (bs' : Blk) : Prop where
  b : bl bs' = (bl bs).take at0
  ok : BOk bs'
  c : ∃ c, c ≤ bs.length ∧ (∀ j, j < c → (bl (bs.take j)).length < at0) ∧ bs'.length ≤ c + 1
structure RestT (bs : Blk) (at0 : Nat) (bs' : Blk) : Prop where
  b : bl bs' = (bl bs).drop at0
  ok : BOk bs'
  c : ∀ d, d ≤ bs.length → (bl (bs.take d)).length ≤ at0 → bs'.length + d ≤ bs.length + 1
theorem int_div {a b : Nat} : ((a : Int) / (b : Int)) = ((a / b : Nat) : Int) := (Int.natCast_ediv a b).symm
theorem l_first {at0 : Nat} (h : BlAt g a bs) (ok : BOk bs) (hn : bs.length ≤ 1000) (hat : at0 ≤ 1000000000000000000) (hk : 1 ≤ k) (q : ∀ g' r bs', Sub g g' → BlAt g' r bs' → FirstT bs at0 bs' → Q (.ref r) g') : Gam kl bs_ defs k 206 [.ref a, .int at0] g Q E := by
  obtain ⟨k, rfl⟩ : ∃ j, k = j + 1 := ⟨k - 1, by omega⟩
  obtain ⟨es, h1, h2⟩ := h.ex
  haveI i1 : At g a _ := ⟨h1⟩
  have hl := h2.len
  have hs : sizeLine = 16777216 := rfl
  have big : (2 : Nat) ^ 20000 > 2 ^ 100 := by decide +kernel
  have b100 : (2 : Nat) ^ 100 = 1267650600228229401496703205376 := by decide +kernel
  refine gam_of ld.h206 rfl ?_
  show b_law_first _ _ [some (.ref a), some (.int at0), none, none, none, none, none] _
  unfold b_law_first
  repeat refine go ?_
  refine ⟨by simp, fun F fF => ?_⟩
  repeat refine go ?_
  have lenq : (Sq.lst a (es.map V.ref)).len = bs.length := by simp [Sq.len, hl]
  refine ⟨fun i s g' => i ≤ bs.length ∧ ∃ (fs : Blk) (fas : List Addr) (at_ : Nat) (v3 v4 v5 : Option V), s = [some (.ref a), some (.int at_), some (.ref F), v3, v4, v5, none] ∧ FiI bs at0 i fs at_ ∧ Sub g g' ∧ g' F = some (.lst (fas.map V.ref)) ∧ Ents g' fas fs,
    ⟨by omega, [], [], at0, none, none, none, rfl, FiI.zero, Sub.new fF.h, gus, .nil⟩, ?_⟩
  rintro i s g' ⟨hi, fs, fas, at_, v3, v4, v5, rfl, inv, sub, gF, en⟩
  refine ⟨.inl (sub _ _ h1), ?_⟩
  rw [lenq]
  have hfl := en.len
  have hcl : fs.length ≤ 1002 := by
    obtain ⟨c, c1, _, c3, _⟩ := inv.c
    omega
  have hat2 : at_ ≤ at0 := by rw [inv.a]; omega
  haveI j1 : At g' F _ := ⟨gF⟩
  by_cases hlt : i < bs.length
  · rw [if_pos hlt]
    refine go ?_
    intro v hv
    have hi2 : i < es.length := by omega
    have e1 : (es.map V.ref)[i]? = some (.ref es[i]) := by simp [hi2]
    rw [e1] at hv
    cases hv
    obtain ⟨x, m, e2, e3⟩ := h2.get (List.getElem?_eq_getElem hi2)
    have ho : 1 ≤ sz x ∧ sz x ≤ 30 ∧ m ≤ 100000000000000000 := ok _ (List.mem_of_getElem? e2)
    have ex : x.length = sz x := rfl
    haveI j2 : At g' es[i] _ := ⟨sub _ _ e3⟩
    repeat refine go ?_
    refine ⟨rfl, ?_⟩
    repeat refine go ?_
    by_cases h0 : 0 < at_
    · refine ifD (by omega) ?_
      repeat refine go ?_
      refine ⟨by omega, ?_⟩
      repeat refine go ?_
      refine ⟨⟨by omega, ?_⟩, ?_⟩
      · rw [Int.natAbs_natCast]; exact Nat.lt_of_lt_of_le (log_lt (k := 100) (by omega) (by omega)) (by omega)
      rw [ex, int_div]
      repeat refine go ?_
      refine ⟨by simp [sizeLine], fun t ft => ?_⟩
      haveI nF : NeA F t := NeA.of_fr j1 ft
      haveI nF' := nF.symm
      repeat refine go ?_
      refine ⟨by rw [List.length_map]; omega, ?_⟩
      repeat refine go ?_
      refine ⟨by omega, ?_⟩
      by_cases hm : m ≤ at_ / sz x
      · rw [if_neg (by omega)]
        repeat refine go ?_
        refine ⟨cmulw (by omega) (by omega), ?_⟩
        obtain ⟨r1, _, _⟩ := rep_ge (m := m) (tl_len x) ho.1 hm
        have ea : (at_ : Int) - (m : Int) * (x.length : Int) = ((at_ - m * sz x : Nat) : Int) := by
          rw [Int.ofNat_sub r1, Int.natCast_mul]; rfl
        repeat refine go ?_
        rw [ea]
        refine ifDn (by omega) ?_
        repeat refine go ?_
        have n1 := inv.full e2 h0 hm ok
        refine ⟨_, Sub.refl _, by omega, fs ++ [(x, m)], fas ++ [t], at_ - m * sz x, some (.str x), some (.int m), some (.int m), rfl, n1, ?_, ?_, ?_⟩
        · exact fun b o hb => by
            have hbF : b ≠ F := fun z => by rw [z, fF.h] at hb; cases hb
            rw [gun hbF]
            exact Sub.new ft.h _ _ (sub _ _ hb)
        · rw [gus, List.map_append]; rfl
        · have s2 : ∀ b o, b ≠ F → g' b = some o → (gu (gu g' t (.tup [.str x, .int m])) F (.lst (fas.map V.ref ++ [.ref t]))) b = some o := fun b o hb e => by rw [gun hb]; exact Sub.new ft.h _ _ e
          refine Ents.app ?_ (.cons (by rw [gun nF'.h, gus]) .nil)
          exact ents_keep en j1.h s2
      · rw [if_pos (by omega)]
        generalize hf : at_ / sz x = f at *
        obtain ⟨r1, r2, _, _⟩ := rep_lt (m := m) (tl_len x) ho.1 hf.symm (by omega)
        have hfb : f ≤ at_ := by rw [← hf]; exact Nat.div_le_self _ _
        repeat refine go ?_
        refine ⟨cmulw (by omega) (by omega), ?_⟩
        have ea : (at_ : Int) - (f : Int) * (x.length : Int) = ((at_ - f * sz x : Nat) : Int) := by
          rw [Int.ofNat_sub r2, Int.natCast_mul]; rfl
        obtain ⟨n1, n2⟩ := inv.part e2 h0 hf.symm (by omega) ok
        repeat refine go ?_
        rw [ea]
        refine ifD (by omega) ?_
        repeat refine go ?_
        by_cases hr : 0 < at_ - f * sz x
        · refine ifD (by omega) ?_
          repeat refine go ?_
          refine ⟨by omega, ?_⟩
          rw [cutS_to]
          repeat refine go ?_
          refine ⟨by simp [sizeLine], fun t2 ft2 => ?_⟩
          haveI nt2 : NeA F t2 := NeA.of_fr (o := .lst (fas.map V.ref ++ [.ref t])) inferInstance ft2
          haveI nt2' := nt2.symm
          repeat refine go ?_
          refine ⟨by rw [List.length_append, List.length_map]; simp; omega, ?_⟩
          repeat refine go ?_
          refine ⟨_, Sub.refl _, by omega, fs ++ [(x, f)] ++ [(strT (x.cps.toList.take (at_ - f * sz x)), 1)], fas ++ [t] ++ [t2], 0, some (.str x), some (.int m), some (.int f), rfl, n1 hr, ?_, ?_, ?_⟩
          · exact fun b o hb => by
              have hbF : b ≠ F := fun z => by rw [z, fF.h] at hb; cases hb
              rw [gun hbF]
              refine Sub.new ft2.h _ _ ?_
              rw [gun hbF]
              exact Sub.new ft.h _ _ (sub _ _ hb)
          · rw [gus, List.map_append, List.map_append]; rfl
          · refine Ents.app (Ents.app (ents_keep en j1.h fun b o hb e => ?_) (.cons ?_ .nil)) (.cons (by rw [gun nt2'.h, gus]; rfl) .nil)
            · rw [gun hb]
              refine Sub.new ft2.h _ _ ?_
              rw [gun hb]
              exact Sub.new ft.h _ _ e
            · rw [gun nF'.h]
              refine Sub.new ft2.h _ _ ?_
              rw [gun nF'.h, gus]
        · refine ifDn (by omega) ?_
          repeat refine go ?_
          have ez : at_ - f * sz x = 0 := by omega
          rw [ez]
          refine ⟨_, Sub.refl _, by omega, fs ++ [(x, f)], fas ++ [t], 0, some (.str x), some (.int m), some (.int f), rfl, n2 ez, ?_, ?_, ?_⟩
          · exact fun b o hb => by
              have hbF : b ≠ F := fun z => by rw [z, fF.h] at hb; cases hb
              rw [gun hbF]
              exact Sub.new ft.h _ _ (sub _ _ hb)
          · rw [gus, List.map_append]; rfl
          · refine Ents.app (ents_keep en j1.h fun b o hb e => ?_) (.cons (by rw [gun nF'.h, gus]) .nil)
            rw [gun hb]; exact Sub.new ft.h _ _ e
    · refine ifDn (by omega) ?_
      repeat refine go ?_
      have hz : at_ = 0 := by omega
      subst hz
      exact ⟨_, Sub.refl _, by omega, fs, fas, 0, some (.str x), some (.int m), v5, rfl, inv.skip e2, sub, gF, en⟩
  · rw [if_neg hlt]
    have hie : i = bs.length := by omega
    subst hie
    refine go (go ?_)
    refine l_nz gF en (by omega) fun r fr => ?_
    refine ⟨_, Sub.refl _, q _ r (nz fs) (sub.trans (Sub.new fr)) ⟨_, gus, (nzE_ok en).sub (Sub.new fr)⟩ ⟨?_, nz_ok inv.ok, ?_⟩⟩
    · rw [nz_bl, inv.b, List.take_of_length_le (Nat.le_refl _)]
    · obtain ⟨c, c1, c2, c3, _⟩ := inv.c
      exact ⟨c, c1, c2, Nat.le_trans (nz_len fs) c3⟩
end
end SW
end

section
set_option Elab.async false
set_option linter.all false
set_option maxRecDepth 100000
set_option maxHeartbeats 4000000
/-! k85: the rest of blocks, their signs. -/
namespace SW
open PySem L2
set_option synthInstance.maxHeartbeats 200000
set_option synthInstance.maxSize 100000
section
variable {kl : Addr → List V → Prop} {bs_ : Nat → SpG} {defs : Nat → Option FDef} {k : Nat} {g : G} {Q : VG} {E : XG} {a st : Addr} {S S' : Sh} [ld : LawD defs] {bs : Blk}
theorem l_rest {at0 : Nat} (h : BlAt g a bs) (ok : BOk bs) (hn : bs.length ≤ 1000) (hat : at0 ≤ 1000000000000000000) (hk : 1 ≤ k) (q : ∀ g' r bs', Sub g g' → BlAt g' r bs' → RestT bs at0 bs' → Q (.ref r) g') : Gam kl bs_ defs k 207 [.ref a, .int at0] g Q E := by
  obtain ⟨k, rfl⟩ : ∃ j, k = j + 1 := ⟨k - 1, by omega⟩
  obtain ⟨es, h1, h2⟩ := h.ex
  haveI i1 : At g a _ := ⟨h1⟩
  have hl := h2.len
  have hs : sizeLine = 16777216 := rfl
  have big : (2 : Nat) ^ 20000 > 2 ^ 100 := by decide +kernel
  have b100 : (2 : Nat) ^ 100 = 1267650600228229401496703205376 := by decide +kernel
  refine gam_of ld.h207 rfl ?_
  show b_law_rest _ _ [some (.ref a), some (.int at0), none, none, none, none, none] _
  unfold b_law_rest
  repeat refine go ?_
  refine ⟨by simp, fun F fF => ?_⟩
  repeat refine go ?_
  have lenq : (Sq.lst a (es.map V.ref)).len = bs.length := by simp [Sq.len, hl]
  refine ⟨fun i s g' => i ≤ bs.length ∧ ∃ (fs : Blk) (fas : List Addr) (at_ : Nat) (v3 v4 v5 : Option V), s = [some (.ref a), some (.int at_), some (.ref F), v3, v4, v5, none] ∧ ReI bs at0 i fs at_ ∧ Sub g g' ∧ g' F = some (.lst (fas.map V.ref)) ∧ Ents g' fas fs,
    ⟨by omega, [], [], at0, none, none, none, rfl, ReI.zero, Sub.new fF.h, gus, .nil⟩, ?_⟩
  rintro i s g' ⟨hi, fs, fas, at_, v3, v4, v5, rfl, inv, sub, gF, en⟩
  refine ⟨.inl (sub _ _ h1), ?_⟩
  rw [lenq]
  have hfl := en.len
  have hcl : fs.length ≤ 2000 := by have := inv.l; omega
  have hat2 : at_ ≤ at0 := by rw [inv.a]; omega
  haveI j1 : At g' F _ := ⟨gF⟩
  by_cases hlt : i < bs.length
  · rw [if_pos hlt]
    refine go ?_
    intro v hv
    have hi2 : i < es.length := by omega
    have e1 : (es.map V.ref)[i]? = some (.ref es[i]) := by simp [hi2]
    rw [e1] at hv
    cases hv
    obtain ⟨x, m, e2, e3⟩ := h2.get (List.getElem?_eq_getElem hi2)
    have ho : 1 ≤ sz x ∧ sz x ≤ 30 ∧ m ≤ 100000000000000000 := ok _ (List.mem_of_getElem? e2)
    have ex : x.length = sz x := rfl
    haveI j2 : At g' es[i] _ := ⟨sub _ _ e3⟩
    repeat refine go ?_
    refine ⟨rfl, ?_⟩
    repeat refine go ?_
    refine ⟨by omega, ?_⟩
    repeat refine go ?_
    refine ⟨⟨by omega, ?_⟩, ?_⟩
    · rw [Int.natAbs_natCast]; exact Nat.lt_of_lt_of_le (log_lt (k := 100) (by omega) (by omega)) (by omega)
    rw [ex, int_div]
    repeat refine go ?_
    refine ⟨by omega, ?_⟩
    have bF : ∀ {b o}, g b = some o → b ≠ F := fun {b o} hb z => by rw [z, fF.h] at hb; cases hb
    by_cases hm : m ≤ at_ / sz x
    · rw [if_neg (by omega)]
      repeat refine go ?_
      refine ⟨cmulw (by omega) (by omega), ?_⟩
      obtain ⟨r1, _, _⟩ := rep_ge (m := m) (tl_len x) ho.1 hm
      have ea : (at_ : Int) - (m : Int) * (x.length : Int) = ((at_ - m * sz x : Nat) : Int) := by
        rw [Int.ofNat_sub r1, Int.natCast_mul]; rfl
      repeat refine go ?_
      rw [ea]
      refine ifDn (by omega) ?_
      repeat refine go ?_
      refine ⟨by simp [sizeLine], fun t ft => ?_⟩
      haveI nF : NeA F t := NeA.of_fr j1 ft
      haveI nF' := nF.symm
      repeat refine go ?_
      refine ⟨by rw [List.length_map]; omega, ?_⟩
      repeat refine go ?_
      have n1 := inv.full e2 hm ok
      have em : (m : Int) - (m : Int) = ((0 : Nat) : Int) := by omega
      rw [em]
      refine ⟨_, Sub.refl _, by omega, fs ++ [(x, 0)], fas ++ [t], at_ - m * sz x, some (.str x), some (.int m), some (.int m), rfl, n1, fun b o hb => ?_, ?_, ?_⟩
      · rw [gun (bF hb)]
        exact Sub.new ft.h _ _ (sub _ _ hb)
      · rw [gus, List.map_append]; rfl
      · refine Ents.app (ents_keep en j1.h fun b o hb e => ?_) (.cons (by rw [gun nF'.h, gus]) .nil)
        rw [gun hb]; exact Sub.new ft.h _ _ e
    · rw [if_pos (by omega)]
      generalize hf : at_ / sz x = f at *
      obtain ⟨r1, r2, _, _⟩ := rep_lt (m := m) (tl_len x) ho.1 hf.symm (by omega)
      have hfb : f ≤ at_ := by rw [← hf]; exact Nat.div_le_self _ _
      repeat refine go ?_
      refine ⟨cmulw (by omega) (by omega), ?_⟩
      have ea : (at_ : Int) - (f : Int) * (x.length : Int) = ((at_ - f * sz x : Nat) : Int) := by
        rw [Int.ofNat_sub r2, Int.natCast_mul]; rfl
      obtain ⟨n1, n2⟩ := inv.part e2 hf.symm (by omega) ok
      repeat refine go ?_
      rw [ea]
      refine ifD (by omega) ?_
      repeat refine go ?_
      by_cases hr : 0 < at_ - f * sz x
      · refine ifD (by omega) ?_
        repeat refine go ?_
        refine ⟨by omega, ?_⟩
        rw [cutS_from]
        repeat refine go ?_
        refine ⟨by simp [sizeLine], fun t ft => ?_⟩
        haveI nF : NeA F t := NeA.of_fr j1 ft
        haveI nF' := nF.symm
        repeat refine go ?_
        refine ⟨by rw [List.length_map]; omega, ?_⟩
        repeat refine go ?_
        refine ⟨by simp [sizeLine], fun t2 ft2 => ?_⟩
        haveI nt2 : NeA F t2 := NeA.of_fr (o := .lst (fas.map V.ref ++ [.ref t])) inferInstance ft2
        haveI nt2' := nt2.symm
        repeat refine go ?_
        refine ⟨by rw [List.length_append, List.length_map]; simp; omega, ?_⟩
        repeat refine go ?_
        have em : (m : Int) - ((f : Int) + 1) = ((m - (f + 1) : Nat) : Int) := by omega
        rw [em]
        refine ⟨_, Sub.refl _, by omega, fs ++ [(strT (x.cps.toList.drop (at_ - f * sz x)), 1)] ++ [(x, m - (f + 1))], fas ++ [t] ++ [t2], 0, some (.str x), some (.int m), some (.int ((f : Int) + 1)), rfl, n1 hr, fun b o hb => ?_, ?_, ?_⟩
        · rw [gun (bF hb)]
          refine Sub.new ft2.h _ _ ?_
          rw [gun (bF hb)]
          exact Sub.new ft.h _ _ (sub _ _ hb)
        · rw [gus, List.map_append, List.map_append]; rfl
        · refine Ents.app (Ents.app (ents_keep en j1.h fun b o hb e => ?_) (.cons ?_ .nil)) (.cons (by rw [gun nt2'.h, gus]) .nil)
          · rw [gun hb]
            refine Sub.new ft2.h _ _ ?_
            rw [gun hb]
            exact Sub.new ft.h _ _ e
          · rw [gun nF'.h]
            refine Sub.new ft2.h _ _ ?_
            rw [gun nF'.h, gus]; rfl
      · refine ifDn (by omega) ?_
        repeat refine go ?_
        refine ⟨by simp [sizeLine], fun t ft => ?_⟩
        haveI nF : NeA F t := NeA.of_fr j1 ft
        haveI nF' := nF.symm
        repeat refine go ?_
        refine ⟨by rw [List.length_map]; omega, ?_⟩
        repeat refine go ?_
        have ez : at_ - f * sz x = 0 := by omega
        rw [ez]
        have em : (m : Int) - (f : Int) = ((m - f : Nat) : Int) := by omega
        rw [em]
        refine ⟨_, Sub.refl _, by omega, fs ++ [(x, m - f)], fas ++ [t], 0, some (.str x), some (.int m), some (.int f), rfl, n2 ez, fun b o hb => ?_, ?_, ?_⟩
        · rw [gun (bF hb)]
          exact Sub.new ft.h _ _ (sub _ _ hb)
        · rw [gus, List.map_append]; rfl
        · refine Ents.app (ents_keep en j1.h fun b o hb e => ?_) (.cons (by rw [gun nF'.h, gus]) .nil)
          rw [gun hb]; exact Sub.new ft.h _ _ e
  · rw [if_neg hlt]
    have hie : i = bs.length := by omega
    subst hie
    refine go (go ?_)
    refine l_nz gF en (by omega) fun r fr => ?_
    refine ⟨_, Sub.refl _, q _ r (nz fs) (sub.trans (Sub.new fr)) ⟨_, gus, (nzE_ok en).sub (Sub.new fr)⟩ ⟨?_, nz_ok inv.ok, fun d h1 h2 => ?_⟩⟩
    · rw [nz_bl, inv.b, List.take_of_length_le (Nat.le_refl _)]
    · have := (inv.c d h1 h2).1
      rw [Nat.min_eq_left h1] at this
      exact this
/-- the signs from a place to another near it -/
theorem l_signs {b e : Nat} (h : BlAt g a bs) (ok : BOk bs) (hn : bs.length ≤ 500) (hl : (bl bs).length ≤ 1000000000000000000) (hb : b ≤ e) (he : e ≤ (bl bs).length) (h40 : e ≤ b + 40) (hk : 2 ≤ k) (q : ∀ g', Sub g g' → Q (.str (strT (((bl bs).take e).drop b))) g') : Gam kl bs_ defs k 208 [.ref a, .int b, .int e] g Q E := by
  obtain ⟨k, rfl⟩ : ∃ j, k = j + 1 := ⟨k - 1, by omega⟩
  refine gam_of ld.h208 rfl ?_
  show b_law_signs _ _ [some (.ref a), some (.int b), some (.int e), none, none, none] _
  unfold b_law_signs
  have hs : sizeLine = 16777216 := rfl
  repeat refine go ?_
  refine l_rest h ok (by omega) (by omega) (by omega) fun g1 r1 bs1 s1 b1 R => ?_
  have hc1 := R.c 0 (Nat.zero_le _) (by simp [bl_nil])
  repeat refine go ?_
  have ee : (e : Int) - (b : Int) = ((e - b : Nat) : Int) := by omega
  rw [ee]
  refine l_first b1 R.ok (by omega) (by omega) (by omega) fun g2 r2 bs2 s2 b2 F => ?_
  obtain ⟨c, c1, _, c3⟩ := F.c
  have hbl : bl bs2 = ((bl bs).take e).drop b := by rw [F.b, R.b, List.drop_take]
  have hbl40 : (bl bs2).length ≤ 40 := by rw [hbl, List.length_drop, List.length_take]; omega
  obtain ⟨es, h1, h2⟩ := b2.ex
  haveI i1 : At g2 r2 _ := ⟨h1⟩
  have hel := h2.len
  repeat refine go ?_
  have lenq : (Sq.lst r2 (es.map V.ref)).len = bs2.length := by simp [Sq.len, hel]
  refine ⟨fun i s g' => i ≤ bs2.length ∧ ∃ v4 v5, s = [some (.ref a), some (.int b), some (.int e), some (.str (strT (bl (bs2.take i)))), v4, v5] ∧ g' = g2, ⟨by omega, none, none, by rw [List.take_zero]; rfl, rfl⟩, ?_⟩
  rintro i s g' ⟨hi, v4, v5, rfl, rfl⟩
  refine ⟨.inl h1, ?_⟩
  rw [lenq]
  by_cases hlt : i < bs2.length
  · rw [if_pos hlt]
    refine go ?_
    intro v hv
    have hi2 : i < es.length := by omega
    have e1 : (es.map V.ref)[i]? = some (.ref es[i]) := by simp [hi2]
    rw [e1] at hv
    cases hv
    obtain ⟨x, m, e2, e3⟩ := h2.get (List.getElem?_eq_getElem hi2)
    have ho : 1 ≤ sz x ∧ sz x ≤ 30 ∧ m ≤ 100000000000000000 := F.ok _ (List.mem_of_getElem? e2)
    haveI j2 : At g' es[i] _ := ⟨e3⟩
    repeat refine go ?_
    refine ⟨rfl, ?_⟩
    have hb1 := bl_mono (bs := bs2) (show i + 1 ≤ bs2.length from hlt)
    rw [List.take_of_length_le (Nat.le_refl bs2.length), take_bl e2, bl_app, bl_one, List.length_append, rep_len, tl_len] at hb1
    replace hb1 : (bl (bs2.take i)).length + sz x * m ≤ (bl bs2).length := hb1
    have ex : x.length = sz x := rfl
    repeat refine go ?_
    refine ⟨by omega, by omega, by rw [Int.toNat_natCast, ex]; omega, ?_⟩
    rw [Int.toNat_natCast]
    repeat refine go ?_
    have er : (⟨(List.replicate m x.cps.toList).flatten.toArray⟩ : Str) = strT (rep m x.cps.toList) := rfl
    rw [er]
    refine ⟨by rw [strT_len, strT_len, rep_len, tl_len]; omega, ?_⟩
    repeat refine go ?_
    refine ⟨_, Sub.refl _, by omega, some (.str x), some (.int m), ?_, rfl⟩
    rw [take_bl e2, bl_app, bl_one, strT_app]
  · rw [if_neg hlt]
    dsimp only
    repeat refine go ?_
    have hie : i = bs2.length := by omega
    subst hie
    rw [List.take_of_length_le (Nat.le_refl bs2.length), hbl]
    exact ⟨_, Sub.refl _, q g' (s1.trans s2)⟩
end
end SW
end

section
set_option Elab.async false
set_option linter.all false
set_option maxRecDepth 100000
set_option maxHeartbeats 4000000
/-! k85: whether a text has these signs. -/
namespace SW
open PySem L2
set_option synthInstance.maxHeartbeats 200000
set_option synthInstance.maxSize 100000
/-- a house and its shelf -/
structure Hh (g : G) (h sh : Addr) (S : Sh) : Prop where
  h : ∃ r, g h = some (.ins 4 ((17, .ref sh) :: r))
  s : g sh = some (.shf S)
theorem Hh.sub {g g' : G} {h sh : Addr} {S : Sh} (s : Sub g g') (H : Hh g h sh S) : Hh g' h sh S := by
  obtain ⟨r, h1⟩ := H.h
  exact ⟨⟨r, s _ _ h1⟩, s _ _ H.s⟩
theorem HouseAt.hh {g : G} {h sh kn pa un : Addr} {S : Sh} {kvs : List (Key × V)} {ps us : List V} (H : HouseAt g h sh kn pa un S kvs ps us) : Hh g h sh S := ⟨⟨_, H.h⟩, H.s⟩
section
variable {kl : Addr → List V → Prop} {defs : Nat → Option FDef} {k : Nat} {g : G} {Q : VG} {E : XG} {h sh ba st : Addr} {S S' : Sh} [ld : LawD defs] {bs : Blk} [d29 : DefAt defs 29 d_gathered] [d30 : DefAt defs 30 d_stretch_of] [d104 : DefAt defs 104 d_House_shelf]
theorem h_shelf2 {bs_ : Nat → SpG} (H : Hh g h sh S) (hk : 1 ≤ k) (q : Q (.ref sh) g) : Gam kl bs_ defs k 104 [.ref h] g Q E := by
  obtain ⟨k, rfl⟩ : ∃ j, k = j + 1 := ⟨k - 1, by omega⟩
  obtain ⟨r, h1⟩ := H.h
  haveI i1 : At g h _ := ⟨h1⟩
  refine gam_of d104.h rfl ?_
  show b_House_shelf _ _ [some (.ref h)] _
  unfold b_House_shelf
  repeat refine go ?_
  exact fin q
theorem l_same {t d : Nat} (H : Hh g h sh S) (wf : WF S) (hb : BlAt g ba bs) (ok : BOk bs) (hn : bs.length ≤ 400) (rd : Rd S t (bl bs)) [hst : At g st (.lst [.int d])] (hk : 110 ≤ k)
    (q : ∀ g', Off st g g' → (∃ d' : Nat, g' st = some (.lst [.int d'])) → Q (.bl true) g') : Gam kl bsP defs k 209 [.ref h, .ref ba, .int t, .ref st] g Q E := by
  obtain ⟨k, rfl⟩ : ∃ j, k = j + 1 := ⟨k - 1, by omega⟩
  refine gam_of ld.h209 rfl ?_
  show b_law_same _ _ [some (.ref h), some (.ref ba), some (.int t), some (.ref st), none, none, none] _
  unfold b_law_same
  have hs : sizeLine = 16777216 := rfl
  have big := rd.big wf
  have b40 : (10 : Nat) ^ 40 > 10 ^ 20 := by decide +kernel
  have b20 : (10 : Nat) ^ 20 = 100000000000000000000 := by decide +kernel
  obtain ⟨r, h1⟩ := H.h
  haveI i1 : At g h _ := ⟨h1⟩
  haveI i2 : At g sh _ := ⟨H.s⟩
  repeat refine go ?_
  refine l_long hb ok (by omega) (by omega) ?_
  repeat refine go ?_
  refine h_shelf2 H (by omega) ?_
  repeat refine go ?_
  refine ⟨rd.le, ?_⟩
  rw [rd.sg wf]
  generalize hw : bl bs = w at *
  repeat refine go ?_
  refine ifNn rfl ?_
  repeat refine go ?_
  have em : ((w.length : Int) + 1) = ((w.length + 1 : Nat) : Int) := by omega
  rw [em]
  refine l_draw (by omega) (by omega) (by omega) fun r1 d1 hr1 => ?_
  repeat refine go ?_
  rw [em]
  refine l_draw (by omega) (by omega) (by omega) fun r2 d2 hr2 => ?_
  rw [gu_gu]
  repeat refine go ?_
  refine ⟨by simp [sizeLine], fun p fp => ?_⟩
  have emx : ∃ m : Nat, (if (w.length : Int) - 40 > 0 then (w.length : Int) - 40 else 0) = (m : Int) ∧ m ≤ w.length := ⟨w.length - 40, by split <;> omega, by omega⟩
  obtain ⟨m, em1, em2⟩ := emx
  rw [em1]
  have n1 : h ≠ st := fun z => by rw [z, hst.h] at h1; cases h1
  have n2 : sh ≠ st := fun z => by have := H.s; rw [z, hst.h] at this; cases this
  have n3 : st ≠ p := (NeA.of_fr (g := gu g st (.lst [.int d2])) (o := .lst [.int d2]) inferInstance fp).h
  -- the heap without the stream
  generalize hg1 : gu (gu g st (.lst [.int d2])) p (.lst [.int 0, .int m, .int r1, .int r2]) = g1
  have off1 : Off st g g1 := fun b o hb e => by
    rw [← hg1]; exact Sub.new fp.h _ _ (by rw [gun hb]; exact e)
  have st1 : g1 st = some (.lst [.int d2]) := by rw [← hg1, gun n3, gus]
  have p1 : g1 p = some (.lst [.int 0, .int m, .int r1, .int r2]) := by rw [← hg1, gus]
  have H1 : Hh g1 h sh S := ⟨⟨r, off1 _ _ n1 h1⟩, off1 _ _ n2 H.s⟩
  have hb1 : BlAt g1 ba bs := by
    obtain ⟨es, e1, e2⟩ := hb.ex
    have nb : ba ≠ st := fun z => by
      rw [z, hst.h] at e1
      cases e2 with
      | nil => cases e1
      | cons _ _ => cases e1
    exact ⟨es, off1 _ _ nb e1, ents_keep e2 hst.h fun b o hb e => off1 b o hb e⟩
  haveI ip : At g1 p _ := ⟨p1⟩
  repeat refine go ?_
  refine ⟨fun i s g' => i ≤ 4 ∧ ∃ v5 v6, s = [some (.ref h), some (.ref ba), some (.int t), some (.ref st), some (.int (w.length : Nat)), v5, v6] ∧ Sub g1 g', ⟨by omega, none, none, rfl, Sub.refl _⟩, ?_⟩
  rintro i s g' ⟨hi, v5, v6, rfl, sub⟩
  refine ⟨.inl (sub _ _ p1), ?_⟩
  have lenq : (Sq.lst p [V.int 0, .int m, .int r1, .int r2]).len = 4 := rfl
  rw [lenq]
  by_cases hlt : i < 4
  · rw [if_pos hlt]
    refine go ?_
    intro v hv
    obtain ⟨pl, e1, e2⟩ : ∃ pl : Nat, v = .int pl ∧ pl ≤ w.length := by
      match i, hlt with
      | 0, _ => cases hv; exact ⟨0, rfl, by omega⟩
      | 1, _ => cases hv; exact ⟨m, rfl, by omega⟩
      | 2, _ => cases hv; exact ⟨r1, rfl, by omega⟩
      | 3, _ => cases hv; exact ⟨r2, rfl, by omega⟩
    subst e1
    have H2 := H1.sub sub
    obtain ⟨r', h2⟩ := H2.h
    haveI j1 : At g' h _ := ⟨h2⟩
    haveI j2 : At g' sh _ := ⟨H2.s⟩
    repeat refine go ?_
    obtain ⟨en, ee1, ee2, ee3, ee4⟩ : ∃ en : Nat, (if (pl : Int) + 40 < (w.length : Int) then (pl : Int) + 40 else (w.length : Int)) = (en : Int) ∧ pl ≤ en ∧ en ≤ w.length ∧ en ≤ pl + 40 := ⟨min w.length (pl + 40), by split <;> omega, by omega, by omega, by omega⟩
    rw [ee1]
    refine h_shelf2 H2 (by omega) ?_
    repeat refine go ?_
    refine w_str wf rd ee2 ee3 (by omega) (by omega) ?_
    repeat refine go ?_
    refine l_signs (hb1.sub sub) ok (by omega) (by rw [hw]; omega) ee2 (by rw [hw]; omega) ee4 (by omega) fun g2 s2 => ?_
    rw [hw]
    repeat refine go ?_
    refine ifNn rfl ?_
    repeat refine go ?_
    exact ⟨_, Sub.refl _, by omega, _, _, rfl, sub.trans s2⟩
  · rw [if_neg hlt]
    dsimp only
    repeat refine go ?_
    exact ⟨_, Sub.refl _, q g' (fun b o hb e => sub _ _ (off1 b o hb e)) ⟨d2, sub _ _ st1⟩⟩
end
end SW
end

section
set_option Elab.async false
set_option linter.all false
set_option maxRecDepth 100000
set_option maxHeartbeats 4000000
/-! k85: a deed. -/
namespace SW
open PySem L2
set_option synthInstance.maxHeartbeats 200000
set_option synthInstance.maxSize 100000
def nmOk (x : Str) : Prop := x = "a" ∨ x = "b" ∨ x = "c"
theorem nm_ok {x : Str} (h : nmOk x) : nameB x = true := by
  rcases h with rfl | rfl | rfl <;> decide +kernel
/-- a text with its blocks -/
structure Bt (g : G) (S : Sh) (n : Nat) (ba : Addr) (t : Nat) (bs : Blk) : Prop where
  at_ : BlAt g ba bs
  ok : BOk bs
  rd : Rd S t (bl bs)
  ln : (bl bs).length ≤ 100000000000000000
  ct : bs.length ≤ 43 + 3 * n
theorem Bt.sub {g g' : G} {S : Sh} {n ba t : Nat} {bs : Blk} (s : Sub g g') (h : Bt g S n ba t bs) : Bt g' S n ba t bs := ⟨h.at_.sub s, h.ok, h.rd, h.ln, h.ct⟩
theorem Bt.up {g : G} {S S' : Sh} {n m c ba t : Nat} {bs : Blk} (u : Up S S' c) (hm : n ≤ m) (h : Bt g S n ba t bs) : Bt g S' m ba t bs := ⟨h.at_, h.ok, h.rd.up u, h.ln, by have := h.ct; omega⟩
/-- ahead of a deed -/
structure Cx85 (gF g : G) (h sh kn pa un st kd : Addr) (S : Sh) (hk lk : List (Key × V)) (ps us : List V) (name other : Str) (ba bb x y : Nat) (bs cs : Blk) (b e kind many n d : Nat) : Prop where
  H : HouseAt g h sh kn pa un S hk ps us
  wf : WF S
  len : S.length + 200000 < sizeLine
  hkl : hk.length < 1000
  psl : ps.length < 500
  n25 : n ≤ 40
  sub : Sub gF g
  fh : gF h = none
  fs : gF sh = none
  fp : gF pa = none
  ft : gF st = none
  kd : gF kd = some (.dK lk)
  e1 : valV lk (.inr name) = some (.ref ba)
  e2 : valV lk (.inr other) = some (.ref bb)
  e3 : valV hk (.inr name) = some (nV x)
  e4 : valV hk (.inr other) = some (nV y)
  b1 : Bt gF S n ba x bs
  b2 : Bt gF S n bb y cs
  n1 : nmOk name
  gst : g st = some (.lst [.int d])
  npa : pa ≠ st
  nun : un ≠ st
  be : b ≤ e
  en : e ≤ (bl bs).length
  k5 : kind < 5
  c40 : kind < 3 → bs.length + cs.length ≤ 40
  mm : many < 1000000000000000
/-- behind a deed -/
structure DeedT (g g' : G) (h sh kn pa kn' un' st : Addr) (S S' : Sh) (hk : List (Key × V)) (ps : List V) (name : Str) (p ba' r : Nat) (bs' : Blk) (n : Nat) : Prop where
  hs : HouseAt g' h sh kn' pa un' S' (putK hk (.inr name) (nV r)) (ps ++ [.ref kn]) []
  off : OffL [h, sh, pa, st] g g'
  gst : ∃ d : Nat, g' st = some (.lst [.int d])
  fk : g kn' = none
  fu : g un' = none
  fb : g ba' = none
  bu : ba' ≠ un'
  p : g' p = some (.tup [.str name, .ref ba'])
  b : Bt g' S' (n + 1) ba' r bs'
  up : Up S S' 160000
theorem rep_mul (a b : Nat) (w : List Nat) : rep (a * b) w = rep b (rep a w) := by
  induction b with
  | zero => rfl
  | succ b ih => rw [Nat.mul_succ, Nat.add_comm, rep_add, rep_succ, ih]
theorem rep_nil (m : Nat) : rep m [] = [] := by
  have := rep_len m []
  rw [List.length_nil, Nat.zero_mul] at this
  exact List.eq_nil_of_length_eq_zero this
def b_dE : TSt := (sSeq (sAsg (eFn 204 (lCons (eV 1) (lCons (eC (.int 30)) lNil))) (gN 11)) (sSeq (sDrop (eMt [(4, 109)] (eV 0) (lCons (eV 3) (lCons (eV 11) lNil)))) (sSeq (sRet (eTup (lCons (eV 3) (lCons (eBin .Mult (eLst (lCons (eTup (lCons (eV 11) (lCons (eC (.int 1)) lNil))) lNil)) (eBi .int (lCons (eCmp .NotEq (eV 11) (eC (.str ""))) lNil))) lNil)))) sNext)))
def b_dD : TSt := (sSeq (sIf (tBl (eCmp .Lt (eV 9) (eC (.int 4)))) (sSeq (sDrop (eMt [(4, 113)] (eV 0) (lCons (eV 3) (lCons (eV 7) (lCons (eV 8) lNil))))) (sSeq (sRet (eTup (lCons (eV 3) (lCons (eBin .Add (eFn 206 (lCons (eV 5) (lCons (eV 7) lNil))) (eFn 207 (lCons (eV 5) (lCons (eV 8) lNil)))) lNil)))) sNext)) sNext) b_dE)
def b_dC : TSt := (sSeq (sIf (tAnd (tBl (eCmp .Eq (eV 9) (eC (.int 2)))) (tBl (eCmp .LtE (eBin .Add (eV 6) (eFn 205 (lCons (eIx (eV 2) (eV 4)) lNil))) (eBin .Pow (eC (.int 10)) (eC (.int 17)))))) (sSeq (sDrop (eMt [(4, 112)] (eV 0) (lCons (eV 3) (lCons (eV 7) (lCons (eV 4) lNil))))) (sSeq (sRet (eTup (lCons (eV 3) (lCons (eBin .Add (eBin .Add (eFn 206 (lCons (eV 5) (lCons (eV 7) lNil))) (eIx (eV 2) (eV 4))) (eFn 207 (lCons (eV 5) (lCons (eV 7) lNil)))) lNil)))) sNext)) sNext) b_dD)
def b_dB : TSt := (sSeq (sIf (tAnd (tBl (eCmp .Eq (eV 9) (eC (.int 1)))) (tBl (eCmp .LtE (eBin .Add (eV 6) (eFn 205 (lCons (eIx (eV 2) (eV 4)) lNil))) (eBin .Pow (eC (.int 10)) (eC (.int 17)))))) (sSeq (sDrop (eMt [(4, 111)] (eV 0) (lCons (eV 3) (lCons (eV 4) lNil)))) (sSeq (sRet (eTup (lCons (eV 3) (lCons (eBin .Add (eV 5) (eIx (eV 2) (eV 4))) lNil)))) sNext)) sNext) b_dC)
def b_dA : TSt := (sSeq (sIf (tAnd (tBl (eCmp .Eq (eV 9) (eC (.int 0)))) (tAnd (tBl (eCmp .LtE (eBin .Mult (eV 6) (eV 10)) (eBin .Pow (eC (.int 10)) (eC (.int 17))))) (tBl (eCmp .Lt (eBi .len (lCons (eV 5) lNil)) (eC (.int 2)))))) (sSeq (sDrop (eMt [(4, 114)] (eV 0) (lCons (eV 3) (lCons (eV 10) lNil)))) (sSeq (sRet (eTup (lCons (eV 3) (lCons (eLc (iVal (eV 5)) (gTp [11, 12]) (tBl (eCmp .Gt (eV 10) (eC (.int 0)))) (eTup (lCons (eV 11) (lCons (eBin .Mult (eV 12) (eV 10)) lNil))) [11, 12]) lNil)))) sNext)) sNext) b_dB)
def b_d0 : TSt := sSeq (sAsg (eIx (eC (.str "abc")) (eFn 203 (lCons (eV 1) (lCons (eC (.int 3)) lNil)))) (gN 3)) (sSeq (sAsg (eIx (eC (.str "abc")) (eFn 203 (lCons (eV 1) (lCons (eC (.int 3)) lNil)))) (gN 4)) (sSeq (sAsg (eIx (eV 2) (eV 3)) (gN 5)) (sSeq (sAsg (eFn 205 (lCons (eV 5) lNil)) (gN 6)) (sSeq (sAsg (eFn 203 (lCons (eV 1) (lCons (eBin .Add (eV 6) (eC (.int 1))) lNil))) (gN 7)) (sSeq (sAsg (eBin .Add (eV 7) (eFn 203 (lCons (eV 1) (lCons (eIx (eLst (lCons (eBin .Add (eBin .Sub (eV 6) (eV 7)) (eC (.int 1))) (lCons (eBi .min (lCons (eC (.int 40)) (lCons (eBin .Add (eBin .Sub (eV 6) (eV 7)) (eC (.int 1))) lNil))) lNil))) (eFn 203 (lCons (eV 1) (lCons (eC (.int 2)) lNil)))) lNil)))) (gN 8)) (sSeq (sAsg (eFn 203 (lCons (eV 1) (lCons (eC (.int 5)) lNil))) (gN 9)) (sSeq (sIf (tBl (eCmp .Gt (eBin .Add (eBi .len (lCons (eV 5) lNil)) (eBi .len (lCons (eIx (eV 2) (eV 4)) lNil))) (eC (.int 40)))) (sSeq (sAsg (eBin .Add (eC (.int 3)) (eBin .Mod (eV 9) (eC (.int 2)))) (gN 9)) sNext) sNext) (sSeq (sAsg (eFn 203 (lCons (eV 1) (lCons (eIx (eLst (lCons (eC (.int 4)) (lCons (eC (.int 1000)) (lCons (eBin .Pow (eC (.int 10)) (eC (.int 15))) lNil)))) (eFn 203 (lCons (eV 1) (lCons (eC (.int 3)) lNil)))) lNil))) (gN 10)) b_dA))))))))
theorem b_d_eq : b_law_deed = b_d0 := rfl
section
variable {kl : Addr → List V → Prop} {defs : Nat → Option FDef} {k : Nat} {gF g : G} {Q : VG} {h sh kn pa un st kd : Addr} {S : Sh} {hk lk : List (Key × V)} {ps us : List V} {name other : Str} {ba bb x y : Nat} {bs cs : Blk} {b e kind many n d : Nat} [ld : LawD defs] [jd : JoD defs] [d3 : DefAt defs 3 d_is_name] [d52 : DefAt defs 52 d_repeated] [d57 : DefAt defs 57 d_put_in] [d58 : DefAt defs 58 d_taken_out]
  [d106 : DefAt defs 106 d_House_text] [d107 : DefAt defs 107 d_House_step] [d108 : DefAt defs 108 d_House_given] [d109 : DefAt defs 109 d_House_give] [d111 : DefAt defs 111 d_House_join_to] [d112 : DefAt defs 112 d_House_put_into] [d113 : DefAt defs 113 d_House_take_from] [d114 : DefAt defs 114 d_House_repeat] [d116 : DefAt defs 116 d_House_back] [d117 : DefAt defs 117 d_House_again] {er : Nat → L2.St → G → Prop} {nx : L2.St → G → Prop} {bk ct : L2.St → G → Prop}
/-- a deed of a house, and a new list of blocks behind it -/
theorem deed_t {g1 g2 : G} {S' : Sh} {kn' un' r p ba' : Nat} {bs' : Blk} (X : Cx85 gF g h sh kn pa un st kd S hk lk ps us name other ba bb x y bs cs b e kind many n d) (D : Deed g g1 h sh kn pa kn' un' S' (putK hk (.inr name) (nV r)) ps)
    (s : Sub g1 g2) (fb : g1 ba' = none) (hp : g2 p = some (.tup [.str name, .ref ba'])) (hb : Bt g2 S' (n + 1) ba' r bs') (up : Up S S' 160000) : DeedT g g2 h sh kn pa kn' un' st S S' hk ps name p ba' r bs' n := by
  refine ⟨D.at_.off s, fun c o hc e => ?_, ⟨d, ?_⟩, D.fk, D.fu, ?_, ?_, hp, hb, up⟩
  · simp only [List.mem_cons, List.not_mem_nil, or_false, not_or] at hc
    exact s _ _ (D.off c o (by simp [hc.1, hc.2.1, hc.2.2.1]) e)
  · have nh : st ≠ h := fun z => by have := X.gst; rw [z, X.H.h] at this; cases this
    have ns : st ≠ sh := fun z => by have := X.gst; rw [z, X.H.s] at this; cases this
    exact s _ _ (D.off st _ (by simp [nh, ns, X.npa.symm]) X.gst)
  · cases q : g ba' with
    | none => rfl
    | some o =>
      by_cases c1 : ba' = h
      · subst c1; have := D.at_.h; rw [fb] at this; cases this
      · by_cases c2 : ba' = sh
        · subst c2; have := D.at_.s; rw [fb] at this; cases this
        · by_cases c3 : ba' = pa
          · subst c3; have := D.at_.p; rw [fb] at this; cases this
          · have := D.off ba' o (by simp [c1, c2, c3]) q; rw [fb] at this; cases this
  · intro z; subst z; have := D.at_.u; rw [fb] at this; cases this
theorem Cx85.sub1 {g1 : G} {S' : Sh} {kn' un' : Nat} {hk' : List (Key × V)} (X : Cx85 gF g h sh kn pa un st kd S hk lk ps us name other ba bb x y bs cs b e kind many n d) (D : Deed g g1 h sh kn pa kn' un' S' hk' ps) : Sub gF g1 :=
  D.off.sub X.sub fun c hc => by
    simp only [List.mem_cons, List.not_mem_nil, or_false] at hc
    rcases hc with rfl | rfl | rfl
    · exact X.fh
    · exact X.fs
    · exact X.fp
end
end SW
end

section
set_option Elab.async false
set_option linter.all false
set_option maxRecDepth 100000
set_option maxHeartbeats 4000000
/-! k85: the kinds of deeds. -/
namespace SW
open PySem L2
set_option synthInstance.maxHeartbeats 200000
set_option synthInstance.maxSize 100000
theorem HouseAt.offst {g g' : G} {h sh kn pa un st : Addr} {S : Sh} {kvs : List (Key × V)} {ps us : List V} {d : Nat} (H : HouseAt g h sh kn pa un S kvs ps us) (hst : g st = some (.lst [.int d])) (n1 : pa ≠ st) (n2 : un ≠ st) (o : Off st g g') : HouseAt g' h sh kn pa un S kvs ps us :=
  ⟨o _ _ (fun z => by have := H.h; rw [z, hst] at this; cases this) H.h, o _ _ (fun z => by have := H.s; rw [z, hst] at this; cases this) H.s, o _ _ (fun z => by have := H.k; rw [z, hst] at this; cases this) H.k, o _ _ n1 H.p, o _ _ n2 H.u, H.ne⟩
section
variable {kl : Addr → List V → Prop} {defs : Nat → Option FDef} {k : Nat} {gF g : G} {Q : VG} {h sh kn pa un st kd : Addr} {S : Sh} {hk lk : List (Key × V)} {ps us : List V} {name other : Str} {ba bb x y : Nat} {bs cs : Blk} {b e kind many n d : Nat} [ld : LawD defs] [jd : JoD defs] [d3 : DefAt defs 3 d_is_name] [d52 : DefAt defs 52 d_repeated] [d57 : DefAt defs 57 d_put_in] [d58 : DefAt defs 58 d_taken_out]
  [d106 : DefAt defs 106 d_House_text] [d107 : DefAt defs 107 d_House_step] [d108 : DefAt defs 108 d_House_given] [d109 : DefAt defs 109 d_House_give] [d111 : DefAt defs 111 d_House_join_to] [d112 : DefAt defs 112 d_House_put_into] [d113 : DefAt defs 113 d_House_take_from] [d114 : DefAt defs 114 d_House_repeat] [d116 : DefAt defs 116 d_House_back] [d117 : DefAt defs 117 d_House_again] {er : Nat → L2.St → G → Prop} {nx : L2.St → G → Prop} {rt : VG} {bk ct : L2.St → G → Prop}
theorem Cx85.off {g1 : G} {d' : Nat} (X : Cx85 gF g h sh kn pa un st kd S hk lk ps us name other ba bb x y bs cs b e kind many n d) (o : Off st g g1) (hst : g1 st = some (.lst [.int d'])) : Cx85 gF g1 h sh kn pa un st kd S hk lk ps us name other ba bb x y bs cs b e kind many n d' :=
  ⟨X.H.offst X.gst X.npa X.nun o, X.wf, X.len, X.hkl, X.psl, X.n25, fun c u hc => o c u (fun z => by rw [z, X.ft] at hc; cases hc) (X.sub c u hc), X.fh, X.fs, X.fp, X.ft, X.kd, X.e1, X.e2, X.e3, X.e4, X.b1, X.b2, X.n1, hst, X.npa, X.nun, X.be, X.en, X.k5, X.c40, X.mm⟩
theorem DeedT.draw {g1 g' : G} {d d' : Nat} {kn' un' : Addr} {S' : Sh} {p ba' r : Nat} {bs' : Blk} (gst : g st = some (.lst [.int d])) (o : Off st g g1) (hst : g1 st = some (.lst [.int d'])) (D : DeedT g1 g' h sh kn pa kn' un' st S S' hk ps name p ba' r bs' n) : DeedT g g' h sh kn pa kn' un' st S S' hk ps name p ba' r bs' n := by
  have fr : ∀ c, g1 c = none → g c = none := fun c hc => by
    cases q : g c with
    | none => rfl
    | some u =>
      by_cases z : c = st
      · subst z; rw [hst] at hc; cases hc
      · rw [o c u z q] at hc; cases hc
  refine ⟨D.hs, fun c u hc hu => ?_, D.gst, fr _ D.fk, fr _ D.fu, fr _ D.fb, D.bu, D.p, D.b, D.up⟩
  have hc' := hc
  simp only [List.mem_cons, List.not_mem_nil, or_false, not_or] at hc'
  exact D.off c u hc (o c u hc'.2.2.2 hu)
theorem off_gu {a : Addr} {g : G} {o : O} : Off a g (gu g a o) := fun b u h1 h2 => by rw [gun h1]; exact h2
abbrev sg85 (h st kd : Addr) (name other : Str) (ba : Addr) (bs : Blk) (b e kind many : Nat) : L2.St := [some (.ref h), some (.ref st), some (.ref kd), some (.str name), some (.str other), some (.ref ba), some (.int ((bl bs).length : Nat)), some (.int b), some (.int e), some (.int kind), some (.int many), none, none]
theorem l_dE (X : Cx85 gF g h sh kn pa un st kd S hk lk ps us name other ba bb x y bs cs b e kind many n d) (hkk : 107 ≤ k)
    (q : ∀ g' kn' un' S' p ba' r bs', DeedT g g' h sh kn pa kn' un' st S S' hk ps name p ba' r bs' n → rt (.ref p) g') :
    b_dE ⟨kl, Gam kl bsP defs k, er⟩ ⟨nx, rt, bk, ct⟩ (sg85 h st kd name other ba bs b e kind many) g := by
  have hs : sizeLine = 16777216 := rfl
  unfold b_dE
  haveI i1 : At g st _ := ⟨X.gst⟩
  repeat refine go ?_
  refine l_plain (most := 30) (by omega) (by omega) fun pl d' hpl hsz => ?_
  have o1 : Off st g (gu g st (.lst [.int d'])) := off_gu
  have X1 := X.off o1 gus
  haveI j1 : At (gu g st (.lst [.int d'])) h _ := ⟨X1.H.h⟩
  repeat refine go ?_
  have b19 : (2 : Nat) ^ 19 = 524288 := by decide +kernel
  have hlen := X.len
  obtain ⟨r, S', c, hd, gd, hc⟩ := s_bu (n := 19) X.wf hpl (by omega) (by omega) (by omega)
  refine h_give X1.H (nm_ok X.n1) hd X.hkl (by have := X.psl; omega) (by omega) fun g1 kn' un' D => ?_
  repeat refine go ?_
  refine ⟨by simp [sizeLine], fun t ft => ?_⟩
  repeat refine go ?_
  refine ⟨by simp [sizeLine], fun l fl => ?_⟩
  haveI nlt : NeA t l := NeA.of_fr (o := .tup [.str pl, .int 1]) inferInstance fl
  repeat refine go ?_
  generalize hkn : (if (!decide (pl = Str.ofString "")) = true then (1 : Int) else 0) = kk
  obtain ⟨k2, hk2, hk3⟩ : ∃ k2 : Nat, kk = (k2 : Int) ∧ k2 ≤ 1 := by
    rw [← hkn]
    split
    · exact ⟨1, rfl, by omega⟩
    · exact ⟨0, rfl, by omega⟩
  subst hk2
  refine ⟨[.ref t], gus, by omega, by omega, by rw [Int.toNat_natCast]; simp; omega, fun ba' hba => ?_⟩
  rw [Int.toNat_natCast]
  repeat refine go ?_
  have fba : Fr (gu (gu g1 t (.tup [.str pl, .int 1])) l (.lst [.ref t])) ba' := ⟨hba⟩
  haveI nta : NeA t ba' := NeA.of_fr (o := .tup [.str pl, .int 1]) inferInstance fba
  refine ⟨by simp [sizeLine], fun p fp => ?_⟩
  haveI nbp : NeA ba' p := NeA.of_fr (o := .lst (List.replicate k2 [V.ref t]).flatten) inferInstance fp
  haveI ntp : NeA t p := NeA.of_fr (o := .tup [.str pl, .int 1]) inferInstance fp
  have gat : ∀ g2, g2 ba' = some (.lst (List.replicate k2 [V.ref t]).flatten) → g2 t = some (.tup [.str pl, .int 1]) → ∃ bs', BlAt g2 ba' bs' ∧ bl bs' = pl.cps.toList ∧ BOk bs' ∧ bs'.length ≤ 1 := fun g2 hb2 ht2 => by
    by_cases hz : pl = Str.ofString ""
    · have : k2 = 0 := by
        rw [decide_eq_true hz] at hkn; simp at hkn; omega
      subst this
      refine ⟨[], ⟨[], hb2, .nil⟩, ?_, fun p h => (nomatch h), by simp⟩
      have := (str_nil (s := pl)).mp hz
      rw [bl_nil]
      exact (List.eq_nil_of_length_eq_zero (by rw [tl_len]; exact this)).symm
    · have : k2 = 1 := by
        rw [decide_eq_false hz] at hkn; simp at hkn; omega
      subst this
      refine ⟨[(pl, 1)], ⟨[t], hb2, .cons ht2 .nil⟩, ?_, .one ?_ hsz (by omega), by simp⟩
      · rw [bl_one]; show rep (0 + 1) _ = _; rw [rep_succ, rep_zero, List.append_nil]
      · have h0 : ¬ sz pl = 0 := fun z => hz (str_nil.mpr z)
        omega
  obtain ⟨bs', q1, q2, q3, q4⟩ := gat (gu (gu (gu (gu g1 t (.tup [.str pl, .int 1])) l (.lst [.ref t])) ba' (.lst (List.replicate k2 [V.ref t]).flatten)) p (.tup [.str name, .ref ba'])) At.h At.h
  refine q _ kn' un' S' p ba' r bs' (DeedT.draw X.gst o1 gus (deed_t X1 D (((Sub.new ft.h).trans (Sub.new fl.h)).trans ((Sub.new fba.h).trans (Sub.new fp.h))) (fba.of_gu.of_gu.h) gus ⟨q1, q3, ⟨gd.r1, by rw [q2]; exact gd.rd⟩, ?_, by omega⟩ (gd.up.mono (by omega))))
  rw [q2, tl_len]; omega
theorem l_dD (X : Cx85 gF g h sh kn pa un st kd S hk lk ps us name other ba bb x y bs cs b e kind many n d) (hkk : 107 ≤ k)
    (q : ∀ g' kn' un' S' p ba' r bs', DeedT g g' h sh kn pa kn' un' st S S' hk ps name p ba' r bs' n → rt (.ref p) g') :
    b_dD ⟨kl, Gam kl bsP defs k, er⟩ ⟨nx, rt, bk, ct⟩ (sg85 h st kd name other ba bs b e kind many) g := by
  have hs : sizeLine = 16777216 := rfl
  unfold b_dD
  haveI i1 : At g h _ := ⟨X.H.h⟩
  repeat refine go ?_
  by_cases h4 : kind < 4
  · refine ifD (by omega) ?_
    repeat refine go ?_
    have hlen := X.len
    have rd := X.b1.rd
    have be := X.be
    have en := X.en

    obtain ⟨r, S', c, hd, gd, hc⟩ := s_tk (n := 85) (b := b) (e := e) X.wf rd.le (by omega) be (by rw [rd.rd]; exact en) (by omega)
    have hpx := hp_le X.wf rd.le
    refine h_take X.H X.e3 hd X.hkl (by have := X.psl; omega) (by omega) fun g1 kn' un' D => ?_
    have s1 := X.sub1 D
    have B1 := X.b1.sub s1
    have ct := B1.ct
    have n25 := X.n25
    have ln := B1.ln
    repeat refine go ?_
    refine l_first B1.at_ B1.ok (by omega) (by omega) (by omega) fun g2 r2 bs2 s2 b2 F => ?_
    repeat refine go ?_
    refine l_rest (B1.at_.sub s2) B1.ok (by omega) (by omega) (by omega) fun g3 r3 bs3 s3 b3 R => ?_
    have b2' := b2.sub s3
    obtain ⟨es2, u1, u2⟩ := b2'.ex
    obtain ⟨es3, u3, u4⟩ := b3.ex
    haveI j1 : At g3 r2 _ := ⟨u1⟩
    haveI j2 : At g3 r3 _ := ⟨u3⟩
    have l2 := u2.len
    have l3 := u4.len
    obtain ⟨c2, c3, c4, c5⟩ := F.c
    have hcnt : bs2.length + bs3.length ≤ bs.length + 3 := by
      by_cases c0 : c2 = 0
      · have := R.c 0 (by omega) (by simp [bl_nil]); omega
      · have := R.c (c2 - 1) (by omega) (by have := c4 (c2 - 1) (by omega); omega)
        omega
    repeat refine go ?_
    refine ⟨by rw [List.length_map, List.length_map]; omega, fun ba' fba => ?_⟩
    replace fba : Fr g3 ba' := ⟨fba⟩
    rw [← List.map_append]
    repeat refine go ?_
    refine ⟨by simp [sizeLine], fun p fp => ?_⟩
    haveI nbp : NeA ba' p := NeA.of_fr (o := .lst ((es2 ++ es3).map V.ref)) inferInstance fp
    have s4 : Sub g3 (gu (gu g3 ba' (.lst ((es2 ++ es3).map V.ref))) p (.tup [.str name, .ref ba'])) := (Sub.new fba.h).trans (Sub.new fp.h)
    have fb1 : g1 ba' = none := by
      cases z : g1 ba' with
      | none => rfl
      | some o => have := s3 _ _ (s2 _ _ z); rw [fba.h] at this; cases this
    have hbl : bl (bs2 ++ bs3) = (bl bs).take b ++ (bl bs).drop e := by rw [bl_app, F.b, R.b]
    refine q _ kn' un' S' p ba' r (bs2 ++ bs3) (deed_t X D ((s2.trans s3).trans s4) fb1 gus ⟨⟨es2 ++ es3, At.h, (u2.app u4).sub s4⟩, F.ok.app R.ok, ⟨gd.r1, ?_⟩, ?_, ?_⟩ (gd.up.mono (by omega)))
    · rw [hbl, gd.rd, rd.rd]
    · rw [hbl, List.length_append, List.length_take, List.length_drop]; omega
    · rw [List.length_append]; omega
  · refine ifDn (by omega) ?_
    repeat refine go ?_
    exact l_dE X hkk q
end
end SW
end

section
set_option Elab.async false
set_option linter.all false
set_option maxRecDepth 100000
set_option maxHeartbeats 4000000
/-! k85: the other kinds of deeds. -/
namespace SW
open PySem L2
set_option synthInstance.maxHeartbeats 200000
set_option synthInstance.maxSize 100000
theorem p17 : CPow 10 17 := ⟨by decide, by decide, by decide +kernel⟩
theorem e17 : (10 : Int) ^ (17 : Int).toNat = ((100000000000000000 : Nat) : Int) := by decide +kernel
section
variable {kl : Addr → List V → Prop} {defs : Nat → Option FDef} {k : Nat} {gF g : G} {Q : VG} {h sh kn pa un st kd : Addr} {S : Sh} {hk lk : List (Key × V)} {ps us : List V} {name other : Str} {ba bb x y : Nat} {bs cs : Blk} {b e kind many n d : Nat} [ld : LawD defs] [jd : JoD defs] [d3 : DefAt defs 3 d_is_name] [d52 : DefAt defs 52 d_repeated] [d57 : DefAt defs 57 d_put_in] [d58 : DefAt defs 58 d_taken_out]
  [d106 : DefAt defs 106 d_House_text] [d107 : DefAt defs 107 d_House_step] [d108 : DefAt defs 108 d_House_given] [d109 : DefAt defs 109 d_House_give] [d111 : DefAt defs 111 d_House_join_to] [d112 : DefAt defs 112 d_House_put_into] [d113 : DefAt defs 113 d_House_take_from] [d114 : DefAt defs 114 d_House_repeat] [d116 : DefAt defs 116 d_House_back] [d117 : DefAt defs 117 d_House_again] {er : Nat → L2.St → G → Prop} {nx : L2.St → G → Prop} {rt : VG} {bk ct : L2.St → G → Prop}
theorem fr_of {g1 g2 : G} {c : Addr} (s : Sub g1 g2) (h : g2 c = none) : g1 c = none := by
  cases z : g1 c with
  | none => rfl
  | some o => have := s _ _ z; rw [h] at this; cases this
theorem l_dC (X : Cx85 gF g h sh kn pa un st kd S hk lk ps us name other ba bb x y bs cs b e kind many n d) (hkk : 107 ≤ k)
    (q : ∀ g' kn' un' S' p ba' r bs', DeedT g g' h sh kn pa kn' un' st S S' hk ps name p ba' r bs' n → rt (.ref p) g') :
    b_dC ⟨kl, Gam kl bsP defs k, er⟩ ⟨nx, rt, bk, ct⟩ (sg85 h st kd name other ba bs b e kind many) g := by
  have hs : sizeLine = 16777216 := rfl
  unfold b_dC
  haveI i1 : At g h _ := ⟨X.H.h⟩
  haveI i2 : At g kd _ := ⟨X.sub _ _ X.kd⟩
  have B2 := X.b2.sub X.sub
  have ct1 := X.b1.ct
  have ct2 := B2.ct
  have n25 := X.n25
  repeat refine go ?_
  by_cases h2 : kind = 2
  · have hc40 := X.c40 (by omega)
    refine ifD (by omega) ?_
    repeat refine go ?_
    refine ix_dS X.e2 ?_
    repeat refine go ?_
    refine l_long B2.at_ B2.ok (by omega) (by omega) ?_
    repeat refine go ?_
    refine ⟨p17, ?_⟩
    rw [e17]
    repeat refine go ?_
    by_cases hlen17 : (bl bs).length + (bl cs).length ≤ 100000000000000000
    · refine ifD (by omega) ?_
      repeat refine go ?_
      have hlen := X.len
      have rd := X.b1.rd
      have rd2 := X.b2.rd
      have be := X.be
      have en := X.en
      obtain ⟨r, S', c, hd, gd, hc⟩ := s_pi (n := 85) (at_ := b) X.wf rd.le rd2.le (by omega) (by rw [rd.rd]; omega) (by rw [rd.rd, rd2.rd]; omega) (by omega)
      have hpx := hp_le X.wf rd.le
      have hpy := hp_le X.wf rd2.le
      refine h_put X.H X.e3 X.e4 hd X.hkl (by have := X.psl; omega) (by omega) fun g1 kn' un' D => ?_
      have s1 := X.sub1 D
      have B1 := X.b1.sub s1
      have B2' := X.b2.sub s1
      have ln := B1.ln
      repeat refine go ?_
      refine l_first B1.at_ B1.ok (by omega) (by omega) (by omega) fun g2 r2 bs2 s2 b2 F => ?_
      haveI j0 : At g2 kd _ := ⟨s2 _ _ (s1 _ _ X.kd)⟩
      obtain ⟨c2, c3, c4, c5⟩ := F.c
      obtain ⟨es2, u1, u2⟩ := b2.ex
      obtain ⟨esb, v1, v2⟩ := (B2'.at_.sub s2).ex
      haveI j1 : At g2 r2 _ := ⟨u1⟩
      haveI j2 : At g2 bb _ := ⟨v1⟩
      have l2 := u2.len
      have lb := v2.len
      repeat refine go ?_
      refine ix_dS X.e2 ?_
      repeat refine go ?_
      refine ⟨by rw [List.length_map, List.length_map]; omega, fun w hw => ?_⟩
      have s3 : Sub g2 (gu g2 w (.lst (es2.map V.ref ++ esb.map V.ref))) := Sub.new hw
      repeat refine go ?_
      refine l_rest (B1.at_.sub (s2.trans s3)) B1.ok (by omega) (by omega) (by omega) fun g4 r4 bs3 s4 b3 R => ?_
      obtain ⟨es3, u3, u4⟩ := b3.ex
      haveI j3 : At g4 w _ := ⟨s4 _ _ gus⟩
      haveI j4 : At g4 r4 _ := ⟨u3⟩
      have l3 := u4.len
      have hcnt : bs2.length + bs3.length ≤ bs.length + 3 := by
        by_cases c0 : c2 = 0
        · have := R.c 0 (by omega) (by simp [bl_nil]); omega
        · have := R.c (c2 - 1) (by omega) (by have := c4 (c2 - 1) (by omega); omega)
          omega
      repeat refine go ?_
      refine ⟨by rw [List.length_append, List.length_map, List.length_map, List.length_map]; omega, fun ba' fba => ?_⟩
      replace fba : Fr g4 ba' := ⟨fba⟩
      rw [← List.map_append, ← List.map_append]
      repeat refine go ?_
      refine ⟨by simp [sizeLine], fun p fp => ?_⟩
      haveI nbp : NeA ba' p := NeA.of_fr (o := .lst ((es2 ++ esb ++ es3).map V.ref)) inferInstance fp
      have s5 : Sub g4 (gu (gu g4 ba' (.lst ((es2 ++ esb ++ es3).map V.ref))) p (.tup [.str name, .ref ba'])) := (Sub.new fba.h).trans (Sub.new fp.h)
      have s24 := s3.trans s4
      have hbl : bl (bs2 ++ cs ++ bs3) = (bl bs).take b ++ bl cs ++ (bl bs).drop b := by rw [bl_app, bl_app, F.b, R.b]
      refine q _ kn' un' S' p ba' r (bs2 ++ cs ++ bs3) (deed_t X D ((s2.trans s24).trans s5) (fr_of (s2.trans s24) fba.h) gus ⟨⟨es2 ++ esb ++ es3, At.h, (((u2.sub s24).app (v2.sub s24)).app u4).sub s5⟩, (F.ok.app B2.ok).app R.ok, ⟨gd.r1, ?_⟩, ?_, ?_⟩ (gd.up.mono (by omega)))
      · rw [hbl, gd.rd, rd.rd, rd2.rd]
      · rw [hbl, List.length_append, List.length_append, List.length_take, List.length_drop]; omega
      · rw [List.length_append, List.length_append]; omega
    · refine ifDn (by omega) ?_
      repeat refine go ?_
      exact l_dD X hkk q
  · refine ifDn (by omega) ?_
    repeat refine go ?_
    exact l_dD X hkk q
theorem l_dB (X : Cx85 gF g h sh kn pa un st kd S hk lk ps us name other ba bb x y bs cs b e kind many n d) (hkk : 107 ≤ k)
    (q : ∀ g' kn' un' S' p ba' r bs', DeedT g g' h sh kn pa kn' un' st S S' hk ps name p ba' r bs' n → rt (.ref p) g') :
    b_dB ⟨kl, Gam kl bsP defs k, er⟩ ⟨nx, rt, bk, ct⟩ (sg85 h st kd name other ba bs b e kind many) g := by
  have hs : sizeLine = 16777216 := rfl
  unfold b_dB
  haveI i1 : At g h _ := ⟨X.H.h⟩
  haveI i2 : At g kd _ := ⟨X.sub _ _ X.kd⟩
  have B2 := X.b2.sub X.sub
  have ct1 := X.b1.ct
  have ct2 := B2.ct
  have n25 := X.n25
  repeat refine go ?_
  by_cases h2 : kind = 1
  · have hc40 := X.c40 (by omega)
    refine ifD (by omega) ?_
    repeat refine go ?_
    refine ix_dS X.e2 ?_
    repeat refine go ?_
    refine l_long B2.at_ B2.ok (by omega) (by omega) ?_
    repeat refine go ?_
    refine ⟨p17, ?_⟩
    rw [e17]
    repeat refine go ?_
    by_cases hlen17 : (bl bs).length + (bl cs).length ≤ 100000000000000000
    · refine ifD (by omega) ?_
      repeat refine go ?_
      have hlen := X.len
      have rd := X.b1.rd
      have rd2 := X.b2.rd
      have hpx := hp_le X.wf rd.le
      have hpy := hp_le X.wf rd2.le
      obtain ⟨r, S', c, hd, gd, hc, _⟩ := s_joT (n := 85) X.wf rd.le rd2.le (by omega) (by rw [rd.rd, rd2.rd]; omega) (by omega)
      refine h_join X.H X.e3 X.e4 hd X.hkl (by have := X.psl; omega) (by omega) fun g1 kn' un' D => ?_
      have s1 := X.sub1 D
      have B1 := X.b1.sub s1
      have B2' := X.b2.sub s1
      haveI j0 : At g1 kd _ := ⟨s1 _ _ X.kd⟩
      obtain ⟨es2, u1, u2⟩ := B1.at_.ex
      obtain ⟨esb, v1, v2⟩ := B2'.at_.ex
      haveI j1 : At g1 ba _ := ⟨u1⟩
      haveI j2 : At g1 bb _ := ⟨v1⟩
      have l2 := u2.len
      have lb := v2.len
      repeat refine go ?_
      refine ix_dS X.e2 ?_
      repeat refine go ?_
      refine ⟨by rw [List.length_map, List.length_map]; omega, fun ba' fba => ?_⟩
      replace fba : Fr g1 ba' := ⟨fba⟩
      rw [← List.map_append]
      repeat refine go ?_
      refine ⟨by simp [sizeLine], fun p fp => ?_⟩
      haveI nbp : NeA ba' p := NeA.of_fr (o := .lst ((es2 ++ esb).map V.ref)) inferInstance fp
      have s5 : Sub g1 (gu (gu g1 ba' (.lst ((es2 ++ esb).map V.ref))) p (.tup [.str name, .ref ba'])) := (Sub.new fba.h).trans (Sub.new fp.h)
      refine q _ kn' un' S' p ba' r (bs ++ cs) (deed_t X D s5 fba.h gus ⟨⟨es2 ++ esb, At.h, (u2.app v2).sub s5⟩, B1.ok.app B2.ok, ⟨gd.r1, ?_⟩, ?_, ?_⟩ (gd.up.mono (by omega)))
      · rw [bl_app, gd.rd, rd.rd, rd2.rd]
      · rw [bl_app, List.length_append]; exact hlen17
      · rw [List.length_append]; omega
    · refine ifDn (by omega) ?_
      repeat refine go ?_
      exact l_dC X hkk q
  · refine ifDn (by omega) ?_
    repeat refine go ?_
    exact l_dC X hkk q
def repB (bs : Blk) (m : Nat) : Blk := if 0 < m then bs.map fun p => (p.1, p.2 * m) else []
theorem l_dA (X : Cx85 gF g h sh kn pa un st kd S hk lk ps us name other ba bb x y bs cs b e kind many n d) (hkk : 107 ≤ k)
    (q : ∀ g' kn' un' S' p ba' r bs', DeedT g g' h sh kn pa kn' un' st S S' hk ps name p ba' r bs' n → rt (.ref p) g') :
    b_dA ⟨kl, Gam kl bsP defs k, er⟩ ⟨nx, rt, bk, ct⟩ (sg85 h st kd name other ba bs b e kind many) g := by
  have hs : sizeLine = 16777216 := rfl
  have big : (2 : Nat) ^ 20000 > 2 ^ 100 := by decide +kernel
  have b100 : (2 : Nat) ^ 100 = 1267650600228229401496703205376 := by decide +kernel
  have b64 : (2 : Nat) ^ 64 = 18446744073709551616 := by decide +kernel
  unfold b_dA
  haveI i1 : At g h _ := ⟨X.H.h⟩
  have B0 := X.b1.sub X.sub
  obtain ⟨es0, w1, w2⟩ := B0.at_.ex
  haveI i2 : At g ba _ := ⟨w1⟩
  have l0 := w2.len
  have ct1 := X.b1.ct
  have n25 := X.n25
  have ln := X.b1.ln
  have mm := X.mm
  repeat refine go ?_
  by_cases h2 : kind = 0
  · refine ifD (by omega) ?_
    repeat refine go ?_
    refine ⟨cmulw (by omega) (by omega), ?_⟩
    repeat refine go ?_
    refine ⟨p17, ?_⟩
    rw [e17]
    repeat refine go ?_
    by_cases hlen17 : (bl bs).length * many ≤ 100000000000000000
    · refine ifD (by rw [← Int.natCast_mul]; exact Int.ofNat_le.mpr hlen17) ?_
      repeat refine go ?_
      rw [List.length_map]
      by_cases hl2 : bs.length < 2
      · refine ifD (by omega) ?_
        repeat refine go ?_
        have hlen := X.len
        have rd := X.b1.rd
        obtain ⟨L, hL1, hL2, hL3⟩ : ∃ L, many < 2 ^ L ∧ L ≤ many ∧ L ≤ 50 := by
          by_cases m0 : many = 0
          · exact ⟨0, by omega, by omega, by omega⟩
          · refine ⟨many.log2 + 1, Nat.lt_log2_self, ?_, ?_⟩
            · have h1 := Nat.log2_self_le m0
              have : many.log2 < 2 ^ many.log2 := Nat.lt_two_pow_self
              omega
            · have b50 : (2 : Nat) ^ 50 = 1125899906842624 := by decide +kernel
              have := log_lt (n := many) (k := 50) (by omega) (by omega)
              omega
        obtain ⟨r, S', c, hd, gd, hc⟩ := s_re (n := 85) (m := many) (L := L) X.wf rd.le (by omega) hL1 hL2 (by rw [rd.rd]; omega) (by omega)
        refine h_rep X.H X.e3 hd (by omega) (by rw [rd.sg X.wf]; omega) X.hkl (by have := X.psl; omega) (by omega) fun g1 kn' un' D => ?_
        have s1 := X.sub1 D
        have B1 := X.b1.sub s1
        obtain ⟨es, u1, u2⟩ := B1.at_.ex
        haveI j1 : At g1 ba _ := ⟨u1⟩
        have l2 := u2.len
        repeat refine go ?_
        intro ba' hba
        have lenq : (Sq.lst ba (es.map V.ref)).len = bs.length := by simp [Sq.len, l2]
        refine ⟨fun i acc g2 => i ≤ bs.length ∧ ∃ as : List Addr, acc = as.map V.ref ∧ as.length ≤ i ∧ Ents g2 as (repB (bs.take i) many) ∧ Sub g1 g2 ∧ g2 ba' = some (.lst acc), ⟨by omega, [], rfl, by simp, by unfold repB; split <;> exact .nil, Sub.new hba, gus⟩, ?_⟩
        rintro i acc g2 ⟨hi, as, rfl, hal, en, s2, gb⟩
        refine ⟨.inl (s2 _ _ u1), gb, ?_⟩
        rw [lenq]
        by_cases hlt : i < bs.length
        · rw [if_pos hlt]
          refine go ?_
          intro v hv
          have hi2 : i < es.length := by omega
          have e1 : (es.map V.ref)[i]? = some (.ref es[i]) := by simp [hi2]
          rw [e1] at hv
          cases hv
          obtain ⟨z, m, e2, e3⟩ := u2.get (List.getElem?_eq_getElem hi2)
          have ho : 1 ≤ sz z ∧ sz z ≤ 30 ∧ m ≤ 100000000000000000 := B1.ok _ (List.mem_of_getElem? e2)
          haveI j2 : At g2 es[i] _ := ⟨s2 _ _ e3⟩
          show (gTp [11, 12]) _ _ (sg85 h st kd name other ba bs b e kind many) _ _
          repeat refine go ?_
          refine ⟨rfl, rfl, ?_⟩
          repeat refine go ?_
          by_cases m0 : 0 < many
          · refine ifD (by omega) ?_
            repeat refine go ?_
            refine ⟨cmulw (by omega) (by omega), ?_⟩
            repeat refine go ?_
            refine ⟨by simp [sizeLine], fun t ft => ?_⟩
            haveI nbt : NeA ba' t := NeA.of_fr ⟨gb⟩ ft
            have em : (m : Int) * (many : Int) = ((m * many : Nat) : Int) := by rw [Int.natCast_mul]
            rw [em]
            refine ⟨by rw [gun nbt.h]; exact gb, by rw [List.length_map]; omega, _, Sub.refl _, by omega, as ++ [t], by rw [List.map_append]; rfl, by rw [List.length_append]; simp; omega, ?_, ?_, by rw [gus]⟩
            · have er : repB (bs.take (i + 1)) many = repB (bs.take i) many ++ [(z, m * many)] := by
                unfold repB
                rw [if_pos m0, if_pos m0, take_bl e2, List.map_append]; rfl
              rw [er]
              refine Ents.app (ents_keep en gb fun b o hb e => ?_) (.cons ?_ .nil)
              · rw [gun hb]; exact Sub.new ft.h _ _ e
              · rw [gun nbt.symm.h, gus]
            · intro b o hb
              have : b ≠ ba' := fun z => by rw [z, hba] at hb; cases hb
              rw [gun this]
              exact Sub.new ft.h _ _ (s2 _ _ hb)
          · refine ifDn (by omega) ?_
            refine ⟨g2, Sub.refl _, by omega, as, rfl, by omega, ?_, s2, gb⟩
            have er : repB (bs.take (i + 1)) many = repB (bs.take i) many := by
              unfold repB
              rw [if_neg m0, if_neg m0]
            rw [er]; exact en
        · rw [if_neg hlt]
          have hie : i = bs.length := by omega
          subst hie
          rw [List.take_of_length_le (Nat.le_refl bs.length)] at en
          repeat refine go ?_
          refine ⟨by simp [sizeLine], fun p fp => ?_⟩
          have eb : bl (repB bs many) = rep many (bl bs) := by
            unfold repB
            match bs, hl2 with
            | [], _ => split <;> simp [bl_nil, rep_nil]
            | [z], _ =>
              split
              · rw [List.map_singleton, bl_one, bl_one, rep_mul]
              · have : many = 0 := by omega
                rw [this, rep_zero, bl_nil]
          refine q _ kn' un' S' p ba' r (repB bs many) (deed_t X D (s2.trans (Sub.new fp.h)) hba gus ⟨⟨as, Sub.new fp.h _ _ gb, en.sub (Sub.new fp.h)⟩, ?_, ⟨gd.r1, ?_⟩, ?_, ?_⟩ (gd.up.mono (by omega)))
          · intro z hz
            unfold repB at hz
            split at hz
            · obtain ⟨z1, hz1, rfl⟩ := List.mem_map.mp hz
              have ho := B1.ok z1 hz1
              refine ⟨ho.1, ho.2.1, ?_⟩
              have : z1.2 ≤ (bl bs).length := by
                match bs, hl2, hz1 with
                | [z2], _, hz1 =>
                  rw [List.mem_singleton] at hz1
                  subst hz1
                  rw [bl_one, rep_len, tl_len]
                  exact Nat.le_mul_of_pos_left _ ho.1
              exact Nat.le_trans (Nat.mul_le_mul_right _ this) hlen17
            · cases hz
          · rw [eb, gd.rd, rd.rd]
          · rw [eb, rep_len]; exact hlen17
          · unfold repB
            split
            · rw [List.length_map]; omega
            · simp
      · refine ifDn (by omega) ?_
        repeat refine go ?_
        exact l_dB X hkk q
    · refine ifDn (by rw [← Int.natCast_mul]; intro z; exact hlen17 (Int.ofNat_le.mp z)) ?_
      repeat refine go ?_
      exact l_dB X hkk q
  · refine ifDn (by omega) ?_
    repeat refine go ?_
    exact l_dB X hkk q
end
end SW
end

section
set_option Elab.async false
set_option linter.all false
set_option maxRecDepth 100000
set_option maxHeartbeats 4000000
/-! k85: a deed drawn and done. -/
namespace SW
open PySem L2
set_option synthInstance.maxHeartbeats 200000
set_option synthInstance.maxSize 100000
/-- the texts of the names, by the law and by the house -/
structure Sn (gF : G) (S : Sh) (n : Nat) (ld hd : Addr) (lk hk : List (Key × V)) : Prop where
  l : gF ld = some (.dK lk)
  h : gF hd = some (.dK hk)
  ll : lk.length ≤ 3
  hl : hk.length ≤ 3
  nm : ∀ x, nmOk x → ∃ ba t bs, valV lk (.inr x) = some (.ref ba) ∧ valV hk (.inr x) = some (nV t) ∧ Bt gF S n ba t bs
theorem Sn.sub {g g' : G} {S : Sh} {n : Nat} {ld hd : Addr} {lk hk : List (Key × V)} (s : Sub g g') (h : Sn g S n ld hd lk hk) : Sn g' S n ld hd lk hk :=
  ⟨s _ _ h.l, s _ _ h.h, h.ll, h.hl, fun x hx => let ⟨ba, t, bs, a, b, c⟩ := h.nm x hx; ⟨ba, t, bs, a, b, c.sub s⟩⟩
theorem Sn.up {g : G} {S S' : Sh} {n m c : Nat} {ld hd : Addr} {lk hk : List (Key × V)} (u : Up S S' c) (hm : n ≤ m) (h : Sn g S n ld hd lk hk) : Sn g S' m ld hd lk hk :=
  ⟨h.l, h.h, h.ll, h.hl, fun x hx => let ⟨ba, t, bs, a, b, c⟩ := h.nm x hx; ⟨ba, t, bs, a, b, c.up u hm⟩⟩
/-- ahead of a deed that is to be drawn -/
structure Cy85 (gF g : G) (h sh kn pa un st kd : Addr) (S : Sh) (hk lk : List (Key × V)) (ps us : List V) (n d : Nat) : Prop where
  H : HouseAt g h sh kn pa un S hk ps us
  wf : WF S
  len : S.length + 200000 < sizeLine
  psl : ps.length < 500
  n25 : n ≤ 40
  sub : Sub gF g
  fh : gF h = none
  fs : gF sh = none
  fp : gF pa = none
  ft : gF st = none
  sn : Sn gF S n kd kn lk hk
  gst : g st = some (.lst [.int d])
  npa : pa ≠ st
  nun : un ≠ st
theorem abc_at {r : Nat} (h : r < 3) : ∃ c, atI (Str.ofString "abc").cps.toList (r : Int) = some c ∧ nmOk ⟨#[c]⟩ := by
  match r, h with
  | 0, _ => exact ⟨97, by kernel_rfl, .inl (by kernel_rfl)⟩
  | 1, _ => exact ⟨98, by kernel_rfl, .inr (.inl (by kernel_rfl))⟩
  | 2, _ => exact ⟨99, by kernel_rfl, .inr (.inr (by kernel_rfl))⟩
section
variable {kl : Addr → List V → Prop} {defs : Nat → Option FDef} {k : Nat} {gF g : G} {Q : VG} {E : XG} {h sh kn pa un st kd : Addr} {S : Sh} {hk lk : List (Key × V)} {ps us : List V} {n d : Nat} [ld : LawD defs] [jd : JoD defs] [d3 : DefAt defs 3 d_is_name] [d52 : DefAt defs 52 d_repeated] [d57 : DefAt defs 57 d_put_in] [d58 : DefAt defs 58 d_taken_out]
  [d106 : DefAt defs 106 d_House_text] [d107 : DefAt defs 107 d_House_step] [d108 : DefAt defs 108 d_House_given] [d109 : DefAt defs 109 d_House_give] [d111 : DefAt defs 111 d_House_join_to] [d112 : DefAt defs 112 d_House_put_into] [d113 : DefAt defs 113 d_House_take_from] [d114 : DefAt defs 114 d_House_repeat] [d116 : DefAt defs 116 d_House_back] [d117 : DefAt defs 117 d_House_again]
theorem l_deed (C : Cy85 gF g h sh kn pa un st kd S hk lk ps us n d) (hkk : 108 ≤ k)
    (q : ∀ g' kn' un' S' p ba' r bs' name, nmOk name → DeedT g g' h sh kn pa kn' un' st S S' hk ps name p ba' r bs' n → Q (.ref p) g') : Gam kl bsP defs k 210 [.ref h, .ref st, .ref kd] g Q E := by
  obtain ⟨k, rfl⟩ : ∃ j, k = j + 1 := ⟨k - 1, by omega⟩
  refine gam_of ld.h210 rfl ?_
  show b_law_deed _ _ [some (.ref h), some (.ref st), some (.ref kd), none, none, none, none, none, none, none, none, none, none] _
  rw [b_d_eq]
  unfold b_d0
  have hs : sizeLine = 16777216 := rfl
  have b40 : (10 : Nat) ^ 40 > 10 ^ 20 := by decide +kernel
  have b20 : (10 : Nat) ^ 20 = 100000000000000000000 := by decide +kernel
  haveI i1 : At g st _ := ⟨C.gst⟩
  repeat refine go ?_
  refine l_draw (m := 3) (by omega) (by omega) (by omega) fun r1 d1 hr1 => ?_
  obtain ⟨c1, ec1, nm1⟩ := abc_at hr1
  repeat refine go ?_
  refine ⟨_, c1, rfl, by decide +kernel, ec1, ?_⟩
  generalize (⟨#[c1]⟩ : Str) = name at *
  repeat refine go ?_
  refine l_draw (m := 3) (by omega) (by omega) (by omega) fun r2 d2 hr2 => ?_
  rw [gu_gu]
  obtain ⟨c2, ec2, nm2⟩ := abc_at hr2
  repeat refine go ?_
  refine ⟨_, c2, rfl, by decide +kernel, ec2, ?_⟩
  generalize (⟨#[c2]⟩ : Str) = other at *
  obtain ⟨ba, x, bs, e1, e3, B1⟩ := C.sn.nm name nm1
  obtain ⟨bb, y, cs, e2, e4, B2⟩ := C.sn.nm other nm2
  have nst : ∀ {b o}, gF b = some o → b ≠ st := fun {b o} hb z => by rw [z, C.ft] at hb; cases hb
  have soff : ∀ {g1}, Off st g g1 → Sub gF g1 := fun {g1} o b u hb => o b u (nst hb) (C.sub b u hb)
  generalize hg1 : gu g st (.lst [.int d2]) = g1
  have o1 : Off st g g1 := by rw [← hg1]; exact off_gu
  have t1 : g1 st = some (.lst [.int d2]) := by rw [← hg1]; exact gus
  have s1 := soff o1
  haveI j1 : At g1 st _ := ⟨t1⟩
  haveI j2 : At g1 kd _ := ⟨s1 _ _ C.sn.l⟩
  have ct1 := B1.ct
  have ct2 := B2.ct
  have n25 := C.n25
  have ln := B1.ln
  repeat refine go ?_
  refine ix_dS e1 ?_
  repeat refine go ?_
  refine l_long (B1.at_.sub s1) B1.ok (by omega) (by omega) ?_
  repeat refine go ?_
  have em : (((bl bs).length : Int) + 1) = (((bl bs).length + 1 : Nat) : Int) := by omega
  rw [em]
  refine l_draw (by omega) (by omega) (by omega) fun b d3 hb => ?_
  have o2 : Off st g (gu g1 st (.lst [.int d3])) := o1.trans off_gu
  generalize hg2 : gu g1 st (.lst [.int d3]) = g2 at *
  have t2 : g2 st = some (.lst [.int d3]) := by rw [← hg2]; exact gus
  haveI j3 : At g2 st _ := ⟨t2⟩
  repeat refine go ?_
  refine ⟨by simp [sizeLine], fun p1 fp1 => ?_⟩
  haveI np1 : NeA st p1 := NeA.of_fr j3 fp1
  haveI np1' := np1.symm
  repeat refine go ?_
  refine l_draw (m := 2) (by omega) (by omega) (by omega) fun r4 d4 hr4 => ?_
  obtain ⟨m4, em4, hm4, hm4'⟩ : ∃ m : Nat, atI [V.int (((bl bs).length : Int) - (b : Int) + 1), V.int (if ((bl bs).length : Int) - (b : Int) + 1 < 40 then ((bl bs).length : Int) - (b : Int) + 1 else 40)] (r4 : Int) = some (.int m) ∧ 0 < m ∧ m ≤ (bl bs).length - b + 1 := by
    match r4, hr4 with
    | 0, _ =>
      refine ⟨(bl bs).length - b + 1, ?_, by omega, by omega⟩
      show some (V.int _) = some (V.int _)
      congr 2
      omega
    | 1, _ =>
      by_cases hh : ((bl bs).length : Int) - (b : Int) + 1 < 40
      · refine ⟨(bl bs).length - b + 1, ?_, by omega, by omega⟩
        rw [if_pos hh]
        show some (V.int _) = some (V.int _)
        congr 2
        omega
      · refine ⟨40, ?_, by omega, by omega⟩
        rw [if_neg hh]
        rfl
  repeat refine go ?_
  refine ⟨_, em4, ?_⟩
  repeat refine go ?_
  refine l_draw hm4 (by omega) (by omega) fun r5 d5 hr5 => ?_
  rw [gu_gu]
  repeat refine go ?_
  have ee : (b : Int) + (r5 : Int) = ((b + r5 : Nat) : Int) := by omega
  rw [ee]
  refine l_draw (m := 5) (by omega) (by omega) (by omega) fun kind d6 hkind => ?_
  rw [gu_gu]
  have o3 : Off st g (gu (gu g2 p1 (.lst [V.int (((bl bs).length : Int) - (b : Int) + 1), V.int (if ((bl bs).length : Int) - (b : Int) + 1 < 40 then ((bl bs).length : Int) - (b : Int) + 1 else 40)])) st (.lst [.int d6])) := fun c u hc e => by
    rw [gun hc]; exact Sub.new fp1.h _ _ (o2 c u hc e)
  generalize hg3 : (gu (gu g2 p1 (.lst [V.int (((bl bs).length : Int) - (b : Int) + 1), V.int (if ((bl bs).length : Int) - (b : Int) + 1 < 40 then ((bl bs).length : Int) - (b : Int) + 1 else 40)])) st (.lst [.int d6])) = g3 at *
  have t3 : g3 st = some (.lst [.int d6]) := by rw [← hg3]; exact gus
  have s3 := soff o3
  haveI j4 : At g3 st _ := ⟨t3⟩
  haveI j5 : At g3 kd _ := ⟨s3 _ _ C.sn.l⟩
  obtain ⟨es1, u1, u2⟩ := (B1.at_.sub s3).ex
  obtain ⟨es2, v1, v2⟩ := (B2.at_.sub s3).ex
  haveI j6 : At g3 ba _ := ⟨u1⟩
  haveI j7 : At g3 bb _ := ⟨v1⟩
  have l1 := u2.len
  have l2 := v2.len
  repeat refine go ?_
  rw [List.length_map, l1]
  refine ix_dS e2 ?_
  repeat refine go ?_
  rw [List.length_map, l2]
  -- behind the kind
  have tail : ∀ kind : Nat, kind < 5 → (kind < 3 → bs.length + cs.length ≤ 40) → (sSeq (sAsg (eFn 203 (lCons (eV 1) (lCons (eIx (eLst (lCons (eC (.int 4)) (lCons (eC (.int 1000)) (lCons (eBin .Pow (eC (.int 10)) (eC (.int 15))) lNil)))) (eFn 203 (lCons (eV 1) (lCons (eC (.int 3)) lNil)))) lNil))) (gN 10)) b_dA)
      ⟨kl, Gam kl bsP defs k, fun e x g' => ∃ g'', Sub g'' g' ∧ E e g''⟩ ⟨fun x g' => ∃ g'', Sub g'' g' ∧ Q V.non g'', fun v g' => ∃ g'', Sub g'' g' ∧ Q v g'', fun _ _ => False, fun _ _ => False⟩
      [some (.ref h), some (.ref st), some (.ref kd), some (.str name), some (.str other), some (.ref ba), some (.int ((bl bs).length : Nat)), some (.int b), some (.int ((b + r5 : Nat) : Int)), some (.int (kind : Nat)), none, none, none] g3 := by
    intro kind hk5 hk40
    repeat refine go ?_
    refine ⟨⟨by decide, by decide, by decide +kernel⟩, ?_⟩
    repeat refine go ?_
    refine ⟨by simp [sizeLine], fun p2 fp2 => ?_⟩
    haveI np2 : NeA st p2 := NeA.of_fr j4 fp2
    haveI np2' := np2.symm
    repeat refine go ?_
    refine l_draw (m := 3) (by omega) (by omega) (by omega) fun r7 d7 hr7 => ?_
    have e15 : (10 : Int) ^ (15 : Int).toNat = ((1000000000000000 : Nat) : Int) := by decide +kernel
    obtain ⟨m7, em7, hm7, hm7'⟩ : ∃ m : Nat, atI [V.int 4, V.int 1000, V.int ((10 : Int) ^ (15 : Int).toNat)] (r7 : Int) = some (.int m) ∧ 0 < m ∧ m ≤ 1000000000000000 := by
      match r7, hr7 with
      | 0, _ => exact ⟨4, rfl, by omega, by omega⟩
      | 1, _ => exact ⟨1000, rfl, by omega, by omega⟩
      | 2, _ => exact ⟨1000000000000000, by rw [e15]; rfl, by omega, by omega⟩
    repeat refine go ?_
    refine ⟨_, em7, ?_⟩
    repeat refine go ?_
    refine l_draw hm7 (by omega) (by omega) fun many d8 hmany => ?_
    rw [gu_gu]
    repeat refine go ?_
    have o4 : Off st g (gu (gu g3 p2 (.lst [V.int 4, V.int 1000, V.int ((10 : Int) ^ (15 : Int).toNat)])) st (.lst [.int d8])) := fun c u hc e => by
      rw [gun hc]; exact Sub.new fp2.h _ _ (o3 c u hc e)
    generalize hg4 : (gu (gu g3 p2 (.lst [V.int 4, V.int 1000, V.int ((10 : Int) ^ (15 : Int).toNat)])) st (.lst [.int d8])) = g4 at *
    have t4 : g4 st = some (.lst [.int d8]) := by rw [← hg4]; exact gus
    refine l_dA (gF := gF) (n := n) (d := d8) (x := x) (y := y) (hk := hk) (lk := lk) (ps := ps) (us := us) (pa := pa) (un := un) (kn := kn) (sh := sh) (S := S) (bb := bb) (cs := cs) ⟨C.H.offst C.gst C.npa C.nun o4, C.wf, C.len, by have := C.sn.hl; omega, C.psl, C.n25, soff o4, C.fh, C.fs, C.fp, C.ft, C.sn.l, e1, e2, e3, e4, B1, B2, nm1, t4, C.npa, C.nun, by omega, by omega, hk5, hk40, by omega⟩ (by omega) fun g' kn' un' S' p ba' r bs' D => ?_
    exact ⟨_, Sub.refl _, q g' kn' un' S' p ba' r bs' name nm1 (DeedT.draw C.gst o4 t4 D)⟩
  by_cases h40 : 40 < bs.length + cs.length
  · refine ifD (by omega) ?_
    repeat refine go ?_
    refine ⟨by omega, ?_⟩
    refine go (go (go ?_))
    have ek : (3 : Int) + (kind : Int) % 2 = ((3 + kind % 2 : Nat) : Int) := by omega
    rw [ek]
    exact tail (3 + kind % 2) (by omega) (fun z => by omega)
  · refine ifDn (by omega) ?_
    refine go ?_
    exact tail kind hkind (fun _ => by omega)
end
end SW
end

section
set_option Elab.async false
set_option linter.all false
set_option maxRecDepth 100000
set_option maxHeartbeats 4000000
/-! k85: a cell's turn. -/
namespace SW
open PySem L2
set_option synthInstance.maxHeartbeats 200000
set_option synthInstance.maxSize 100000
theorem putK_same {κ : Type} [DecidableEq κ] {kvs : List (κ × V)} {k : κ} {v v' : V} (h : valV kvs k = some v) : (putK kvs k v').length = kvs.length := by
  unfold putK
  rw [valV_any, h]
  simp
theorem ents_frg {g : G} {L : List Addr} (hL : ∀ c ∈ L, ∀ xs, g c ≠ some (.tup xs)) : ∀ {es : List Addr} {bs : Blk}, Ents g es bs → Ents (frg g L) es bs
  | _, _, .nil => .nil
  | _, _, .cons h t => .cons (frg_of h fun hc => hL _ hc _ h) (ents_frg hL t)
theorem blat_frg {g : G} {L : List Addr} {a : Addr} {bs : Blk} (hL : ∀ c ∈ L, ∀ xs, g c ≠ some (.tup xs)) (ha : a ∉ L) (h : BlAt g a bs) : BlAt (frg g L) a bs := by
  obtain ⟨es, h1, h2⟩ := h.ex
  exact ⟨es, frg_of h1 ha, ents_frg hL h2⟩
theorem len_step {a b n : Nat} (h1 : a ≤ b + 160000) (h2 : b ≤ 100 + 160000 * n) : a ≤ 100 + 160000 * (n + 1) := Nat.le_trans h1 (by rw [Nat.mul_succ, ← Nat.add_assoc]; exact Nat.add_le_add_right h2 _)
/-- a text that was once made -/
def EvAt (gF : G) (S : Sh) (n : Nat) (v : Addr) : Prop := ∃ ba t bs, gF v = some (.tup [.ref ba, nV t]) ∧ Bt gF S n ba t bs
theorem EvAt.sub {g g' : G} {S : Sh} {n : Nat} {v : Addr} (s : Sub g g') (h : EvAt g S n v) : EvAt g' S n v := let ⟨ba, t, bs, a, b⟩ := h; ⟨ba, t, bs, s _ _ a, b.sub s⟩
theorem EvAt.up {g : G} {S S' : Sh} {n m c : Nat} {v : Addr} (u : Up S S' c) (hm : n ≤ m) (h : EvAt g S n v) : EvAt g S' m v := let ⟨ba, t, bs, a, b⟩ := h; ⟨ba, t, bs, a, b.up u hm⟩
/-- the cells that change -/
structure Mc (gF : G) (h sh pa lp le un : Addr) : Prop where
  f1 : gF h = none
  f2 : gF sh = none
  f3 : gF pa = none
  f4 : gF lp = none
  f5 : gF le = none
  f6 : gF un = none
  n1 : pa ≠ lp
  n2 : pa ≠ le
  n3 : lp ≠ le
  n4 : lp ≠ un
  n5 : le ≠ un
/-- between the cells: hs all dicts of the house, ls all of the law -/
structure Inv85 (gF g : G) (h sh pa lp le un : Addr) (S : Sh) (zs : List V) (hs ls evs : List Addr) (kn kd : Addr) (n : Nat) : Prop where
  mc : Mc gF h sh pa lp le un
  sub : Sub gF g
  wf : WF S
  len : S.length ≤ 100 + 160000 * n
  H : ∃ hk, HouseAt g h sh kn pa un S hk (zs ++ hs.map V.ref) []
  zl : zs.length = 3
  hl : hs.length = n
  ll : ls.length = n
  glp : g lp = some (.lst ((ls ++ [kd]).map V.ref))
  gle : g le = some (.lst (evs.map V.ref))
  sn : ∀ (j : Nat) (a b : Addr), (ls ++ [kd])[j]? = some a → (hs ++ [kn])[j]? = some b → ∃ lk hk, Sn gF S n a b lk hk
  ev : ∀ v ∈ evs, EvAt gF S n v
  el : evs.length = n
section
variable {kl : Addr → List V → Prop} {defs : Nat → Option FDef} {k : Nat} {gF g : G} {Q : VG} {E : XG} {h sh kn pa un kd lp le : Addr} {S : Sh} {zs : List V} {hs ls evs : List Addr} {n : Nat} [ld : LawD defs] [jd : JoD defs] [d3 : DefAt defs 3 d_is_name] [d52 : DefAt defs 52 d_repeated] [d57 : DefAt defs 57 d_put_in] [d58 : DefAt defs 58 d_taken_out]
  [d106 : DefAt defs 106 d_House_text] [d107 : DefAt defs 107 d_House_step] [d108 : DefAt defs 108 d_House_given] [d109 : DefAt defs 109 d_House_give] [d111 : DefAt defs 111 d_House_join_to] [d112 : DefAt defs 112 d_House_put_into] [d113 : DefAt defs 113 d_House_take_from] [d114 : DefAt defs 114 d_House_repeat] [d116 : DefAt defs 116 d_House_back] [d117 : DefAt defs 117 d_House_again]
  [d29 : DefAt defs 29 d_gathered] [d30 : DefAt defs 30 d_stretch_of] [d104 : DefAt defs 104 d_House_shelf] {er : Nat → L2.St → G → Prop} {nx : L2.St → G → Prop} {rt : VG} {bk ct : L2.St → G → Prop}
def b_turn85 : TSt := (sSeq (sAsg (eFn 202 (lCons (eLst (lCons (eV 7) (lCons (eV 6) lNil))) (lCons (eC (.int 0)) lNil))) (gN 8)) (sSeq (sAsg (eFn 210 (lCons (eV 1) (lCons (eV 8) (lCons (eV 2) lNil)))) (gTp [3, 9])) (sSeq (sAsg (eBi .dict (lCons (eV 2) lNil)) (gN 2)) (sSeq (sSetIx (eV 2) (eV 3) (eV 9)) (sSeq (sDrop (eBm .append (eV 4) (lCons (eV 2) lNil))) (sSeq (sDrop (eBm .append (eV 5) (lCons (eTup (lCons (eV 9) (lCons (eMt [(4, 106)] (eV 1) (lCons (eV 3) lNil)) lNil))) lNil))) (sSeq (sIf (tNot (tVal (eFn 209 (lCons (eV 1) (lCons (eV 9) (lCons (eMt [(4, 106)] (eV 1) (lCons (eV 3) lNil)) (lCons (eV 8) lNil))))))) (sSeq (sRet (eC (.bl false))) sNext) sNext) sNext)))))))
theorem l_turn85 {i : Nat} {c : Int} {x0 x3 x8 x9 x10 x11 x12 : Option V} (I : Inv85 gF g h sh pa lp le un S zs hs ls evs kn kd n) (hn : n ≤ 25) (hkk : 111 ≤ k)
    (next : ∀ gF' g' S' kn' kd' un' evs' y3 y8 y9, Sub gF gF' → Inv85 gF' g' h sh pa lp le un' S' zs (hs ++ [kn]) (ls ++ [kd]) evs' kn' kd' (n + 1) → nx [x0, some (.ref h), some (.ref kd'), y3, some (.ref lp), some (.ref le), some (.int (i : Nat)), some (.int c), y8, y9, x10, x11, x12] g') :
    b_turn85 ⟨kl, Gam kl bsP defs k, er⟩ ⟨nx, rt, bk, ct⟩ [x0, some (.ref h), some (.ref kd), x3, some (.ref lp), some (.ref le), some (.int (i : Nat)), some (.int c), x8, x9, x10, x11, x12] g := by
  have hsz : sizeLine = 16777216 := rfl
  unfold b_turn85
  obtain ⟨hk0, HH⟩ := I.H
  repeat refine go ?_
  refine ⟨by simp [sizeLine], fun p0 fp0 => ?_⟩
  repeat refine go ?_
  refine l_stream (sc := p0) (ns := [c, (i : Int)]) (k0 := 0) (.inl gus) (by simp) (by omega) (by omega) fun g1 d st s1 fst gst => ?_
  have s01 : Sub g g1 := (Sub.new fp0.h).trans s1
  have fst0 : g st = none := fr_of (Sub.new fp0.h) fst
  have nlen : ∀ {b o}, g b = some o → b ≠ st := fun {b o} hb z => by rw [z, fst0] at hb; cases hb
  obtain ⟨lk, hk, sn⟩ := I.sn n kd kn (by rw [List.getElem?_append_right (by rw [I.ll]; omega), I.ll]; simp) (by rw [List.getElem?_append_right (by rw [I.hl]; omega), I.hl]; simp)
  have ehk : hk0 = hk := by
    have h1 := HH.k
    have h2 := I.sub _ _ sn.h
    rw [h1] at h2
    cases h2; rfl
  subst ehk
  have fstF : gF st = none := fr_of I.sub fst0
  have hlen := I.len
  repeat refine go ?_
  refine l_deed (gF := gF) (lk := lk) (n := n) (d := d) (S := S) (sh := sh) (kn := kn) (pa := pa) (un := un) (hk := hk0) (ps := zs ++ hs.map V.ref) (us := []) ⟨HH.off s01, I.wf, by omega, by rw [List.length_append, List.length_map, I.zl, I.hl]; omega, by omega, I.sub.trans s01, I.mc.f1, I.mc.f2, I.mc.f3, fstF, sn, gst, nlen HH.p, nlen HH.u⟩ (by omega) fun g2 kn' un' S' p ba' r bs' name hnm D => ?_
  have gp := D.p
  haveI i1 : At g2 p _ := ⟨gp⟩
  -- what stood before the deed, but the house
  have keep : ∀ {b o}, b ≠ h → b ≠ sh → b ≠ pa → g b = some o → g2 b = some o := fun {b o} h1 h2 h3 hb => D.off b o (by simp [h1, h2, h3, nlen hb]) (s01 _ _ hb)
  have sF2 : Sub gF g2 := fun b o hb => keep (fun z => by rw [z, I.mc.f1] at hb; cases hb) (fun z => by rw [z, I.mc.f2] at hb; cases hb) (fun z => by rw [z, I.mc.f3] at hb; cases hb) (I.sub b o hb)
  have lph : lp ≠ h := fun z => by have := I.glp; rw [z, HH.h] at this; cases this
  have lps : lp ≠ sh := fun z => by have := I.glp; rw [z, HH.s] at this; cases this
  have leh : le ≠ h := fun z => by have := I.gle; rw [z, HH.h] at this; cases this
  have les : le ≠ sh := fun z => by have := I.gle; rw [z, HH.s] at this; cases this
  have glp2 := keep lph lps I.mc.n1.symm I.glp
  have gle2 := keep leh les I.mc.n2.symm I.gle
  have glp1 := s01 _ _ I.glp
  have gle1 := s01 _ _ I.gle
  have nlpu : lp ≠ un' := fun z => by have := D.fu; rw [← z, glp1] at this; cases this
  have nleu : le ≠ un' := fun z => by have := D.fu; rw [← z, gle1] at this; cases this
  have nlpb : ba' ≠ lp := fun z => by have := D.fb; rw [z, glp1] at this; cases this
  have nleb : ba' ≠ le := fun z => by have := D.fb; rw [z, gle1] at this; cases this
  have npab : ba' ≠ pa := fun z => by have := D.fb; rw [z, s01 _ _ HH.p] at this; cases this
  have nhb : ba' ≠ h := fun z => by have := D.fb; rw [z, s01 _ _ HH.h] at this; cases this
  have nshb : ba' ≠ sh := fun z => by have := D.fb; rw [z, s01 _ _ HH.s] at this; cases this
  have nstlp : lp ≠ st := nlen I.glp
  have nstle : le ≠ st := nlen I.gle
  obtain ⟨d2, gst2⟩ := D.gst
  haveI i2 : At g2 kd _ := ⟨sF2 _ _ sn.l⟩
  repeat refine go ?_
  refine ⟨rfl, ?_⟩
  repeat refine go ?_
  refine ⟨kd, lk, rfl, At.h, fun D2 hD2 => ?_⟩
  have fD2 : Fr g2 D2 := ⟨hD2⟩
  have nD : ∀ {b o}, g2 b = some o → b ≠ D2 := fun {b o} hb z => by rw [z, hD2] at hb; cases hb
  repeat refine go ?_
  have hlk3 := sn.ll
  refine put_dS (by omega) ?_
  rw [gu_gu]
  have s23 : Sub g2 (gu g2 D2 (.dK (putK lk (.inr name) (.ref ba')))) := Sub.new hD2
  generalize hg3 : gu g2 D2 (.dK (putK lk (.inr name) (.ref ba'))) = g3 at s23
  have gD3 : g3 D2 = some (.dK (putK lk (.inr name) (.ref ba'))) := by rw [← hg3]; exact gus
  haveI i3 : At g3 lp _ := ⟨s23 _ _ glp2⟩
  repeat refine go ?_
  refine ⟨by rw [List.length_map, List.length_append, I.ll]; simp; omega, ?_⟩
  have HH3 := D.hs.off s23
  have pu := (D.hs.p)
  have npalp := I.mc.n1
  -- past and ever longer
  have o4 : ∀ b o, b ≠ lp → g3 b = some o → (gu g3 lp (.lst ((ls ++ [kd]).map V.ref ++ [V.ref D2]))) b = some o := fun b o hb e => by rw [gun hb]; exact e
  generalize hg4 : gu g3 lp (.lst ((ls ++ [kd]).map V.ref ++ [V.ref D2])) = g4 at o4
  have g4lp : g4 lp = some (.lst ((ls ++ [kd]).map V.ref ++ [V.ref D2])) := by rw [← hg4]; exact gus
  have nk4 : ∀ {b o}, (∀ xs, o ≠ .lst xs) → g3 b = some o → g4 b = some o := fun {b o} hn hb => o4 b o (fun z => by rw [z, s23 _ _ glp2] at hb; injection hb with hb; exact hn _ hb.symm) hb
  have H4 : HouseAt g4 h sh kn' pa un' S' (putK hk0 (.inr name) (nV r)) (zs ++ hs.map V.ref ++ [.ref kn]) [] :=
    ⟨nk4 (fun _ z => nomatch z) HH3.h, nk4 (fun _ z => nomatch z) HH3.s, nk4 (fun _ z => nomatch z) HH3.k, o4 _ _ npalp HH3.p, o4 _ _ nlpu.symm HH3.u, HH3.ne⟩
  haveI i4 : At g4 le _ := ⟨o4 _ _ I.mc.n3.symm (s23 _ _ gle2)⟩
  haveI i4h : At g4 h _ := ⟨H4.h⟩
  have evn : valV (putK hk0 (.inr name) (nV r)) (.inr name) = some (nV r) := by rw [valV_put, if_pos rfl]
  repeat refine go ?_
  refine h_text H4 evn (by omega) ?_
  repeat refine go ?_
  refine ⟨by simp [sizeLine], fun ev fev => ?_⟩
  haveI n5 : NeA le ev := NeA.of_fr i4 fev
  haveI n5' := n5.symm
  repeat refine go ?_
  refine ⟨by rw [List.length_map, I.el]; omega, ?_⟩
  have o5 : ∀ b o, b ≠ le → g4 b = some o → (gu (gu g4 ev (.tup [.ref ba', nV r])) le (.lst (evs.map V.ref ++ [V.ref ev]))) b = some o := fun b o hb e => by rw [gun hb]; exact Sub.new fev.h _ _ e
  have g5e : (gu (gu g4 ev (.tup [.ref ba', nV r])) le (.lst (evs.map V.ref ++ [V.ref ev]))) ev = some (.tup [.ref ba', nV r]) := by rw [gun n5'.h, gus]
  have g5l : (gu (gu g4 ev (.tup [.ref ba', nV r])) le (.lst (evs.map V.ref ++ [V.ref ev]))) le = some (.lst (evs.map V.ref ++ [V.ref ev])) := gus
  have g4ev : g4 ev = none := fev.h
  generalize hg5 : (gu (gu g4 ev (.tup [.ref ba', nV r])) le (.lst (evs.map V.ref ++ [V.ref ev]))) = g5 at o5 g5e g5l
  have nk5 : ∀ {b o}, (∀ xs, o ≠ .lst xs) → g4 b = some o → g5 b = some o := fun {b o} hn hb => o5 b o (fun z => by rw [z, i4.h] at hb; injection hb with hb; exact hn _ hb.symm) hb
  have H5 : HouseAt g5 h sh kn' pa un' S' (putK hk0 (.inr name) (nV r)) (zs ++ hs.map V.ref ++ [.ref kn]) [] :=
    ⟨nk5 (fun _ z => nomatch z) H4.h, nk5 (fun _ z => nomatch z) H4.s, nk5 (fun _ z => nomatch z) H4.k, o5 _ _ I.mc.n2 H4.p, o5 _ _ nleu.symm H4.u, H4.ne⟩
  have t5 : ∀ {b xs}, g2 b = some (.tup xs) → g5 b = some (.tup xs) := fun {b xs} hb => nk5 (fun _ z => nomatch z) (nk4 (fun _ z => nomatch z) (s23 _ _ hb))
  have l5 : ∀ {b o}, b ≠ lp → b ≠ le → g2 b = some o → g5 b = some o := fun {b o} h1 h2 hb => o5 b o h2 (o4 b o h1 (s23 b o hb))
  have b5 : BlAt g5 ba' bs' := by
    obtain ⟨es, e1, e2⟩ := D.b.at_.ex
    have go' : ∀ {es : List Addr} {bs : Blk}, Ents g2 es bs → Ents g5 es bs := by
      intro es bs e
      induction e with
      | nil => exact .nil
      | cons h t ih => exact .cons (t5 h) ih
    exact ⟨es, l5 nlpb nleb e1, go' e2⟩
  haveI i5h : At g5 h _ := ⟨H5.h⟩
  haveI i5s : At g5 st _ := ⟨l5 nstlp.symm nstle.symm gst2⟩
  repeat refine go ?_
  refine h_text H5 evn (by omega) ?_
  repeat refine go ?_
  have bct := D.b.ct
  refine l_same (d := d2) H5.hh D.up.wf b5 D.b.ok (by omega) D.b.rd (by omega) fun g6 off6 st6 => ?_
  repeat refine go ?_
  -- the next state
  have npast : pa ≠ st := nlen HH.p
  have nust : un' ≠ st := fun z => by have := D.fu; rw [z, gst] at this; cases this
  have H6 := H5.offst (l5 nstlp.symm nstle.symm gst2) npast nust off6
  have sF5 : Sub gF g5 := fun b o hb => l5 (fun z => by rw [z, I.mc.f4] at hb; cases hb) (fun z => by rw [z, I.mc.f5] at hb; cases hb) (sF2 b o hb)
  have sF6 : Sub gF g6 := fun b o hb => off6 b o (fun z => by rw [z, fstF] at hb; cases hb) (sF5 b o hb)
  have funF : gF un' = none := fr_of I.sub (fr_of s01 D.fu)
  have g6lp : g6 lp = some (.lst ((ls ++ [kd]).map V.ref ++ [V.ref D2])) := off6 _ _ nstlp (o5 _ _ I.mc.n3 g4lp)
  have g6le : g6 le = some (.lst (evs.map V.ref ++ [V.ref ev])) := off6 _ _ nstle g5l
  have nst5 : ∀ {b xs}, g5 b = some (.tup xs) → g6 b = some (.tup xs) := fun {b xs} hb => off6 b _ (fun z => by rw [z, i5s.h] at hb; cases hb) hb
  have b6 : BlAt g6 ba' bs' := by
    obtain ⟨es, e1, e2⟩ := b5.ex
    have go' : ∀ {es : List Addr} {bs : Blk}, Ents g5 es bs → Ents g6 es bs := by
      intro es bs e
      induction e with
      | nil => exact .nil
      | cons h t ih => exact .cons (nst5 h) ih
    exact ⟨es, off6 _ _ (fun z => by have := D.fb; rw [z, gst] at this; cases this) e1, go' e2⟩
  have hLt : ∀ c ∈ [h, sh, pa, lp, le, un'], ∀ xs, g6 c ≠ some (.tup xs) := fun c hc xs e => by
    simp only [List.mem_cons, List.not_mem_nil, or_false] at hc
    rcases hc with rfl | rfl | rfl | rfl | rfl | rfl
    · rw [H6.h] at e; cases e
    · rw [H6.s] at e; cases e
    · rw [H6.p] at e; cases e
    · rw [g6lp] at e; cases e
    · rw [g6le] at e; cases e
    · rw [H6.u] at e; cases e
  have hLd : ∀ c ∈ [h, sh, pa, lp, le, un'], ∀ xs, g6 c ≠ some (.dK xs) := fun c hc xs e => by
    simp only [List.mem_cons, List.not_mem_nil, or_false] at hc
    rcases hc with rfl | rfl | rfl | rfl | rfl | rfl
    · rw [H6.h] at e; cases e
    · rw [H6.s] at e; cases e
    · rw [H6.p] at e; cases e
    · rw [g6lp] at e; cases e
    · rw [g6le] at e; cases e
    · rw [H6.u] at e; cases e
  have subF : Sub gF (frg g6 [h, sh, pa, lp, le, un']) := frg_ext sF6 fun c hc => by
    simp only [List.mem_cons, List.not_mem_nil, or_false] at hc
    rcases hc with rfl | rfl | rfl | rfl | rfl | rfl
    · exact I.mc.f1
    · exact I.mc.f2
    · exact I.mc.f3
    · exact I.mc.f4
    · exact I.mc.f5
    · exact funF
  have bt' : Bt (frg g6 [h, sh, pa, lp, le, un']) S' (n + 1) ba' r bs' := ⟨blat_frg hLt (by simp [nhb, nshb, npab, nlpb, nleb, D.bu]) b6, D.b.ok, D.b.rd, D.b.ln, D.b.ct⟩
  have g4D : g4 D2 = some (.dK (putK lk (.inr name) (.ref ba'))) := nk4 (fun _ z => nomatch z) gD3
  have g5D : g5 D2 = some (.dK (putK lk (.inr name) (.ref ba'))) := nk5 (fun _ z => nomatch z) g4D
  have g6D : g6 D2 = some (.dK (putK lk (.inr name) (.ref ba'))) := off6 _ _ (fun z => by rw [z, i5s.h] at g5D; cases g5D) g5D
  have sn' : Sn (frg g6 [h, sh, pa, lp, le, un']) S' (n + 1) D2 kn' (putK lk (.inr name) (.ref ba')) (putK hk0 (.inr name) (nV r)) := by
    obtain ⟨ba0, t0, bs0, q1, q2, q3⟩ := sn.nm name hnm
    refine ⟨frg_of g6D fun hc => hLd _ hc _ g6D, frg_of H6.k fun hc => hLd _ hc _ H6.k, by rw [putK_same q1]; exact sn.ll, by rw [putK_same q2]; exact sn.hl, fun x hx => ?_⟩
    by_cases ex : x = name
    · subst ex
      exact ⟨ba', r, bs', by rw [valV_put, if_pos rfl], by rw [valV_put, if_pos rfl], bt'⟩
    · obtain ⟨ba1, t1, bs1, r1, r2, r3⟩ := sn.nm x hx
      have ek : (Sum.inr x : Key) ≠ .inr name := fun z => ex (by injection z)
      exact ⟨ba1, t1, bs1, by rw [valV_put, if_neg ek]; exact r1, by rw [valV_put, if_neg ek]; exact r2, (r3.sub subF).up D.up (by omega)⟩
  refine next (frg g6 [h, sh, pa, lp, le, un']) g6 S' kn' D2 un' (evs ++ [ev]) _ _ _ subF ⟨⟨frg_no (by simp), frg_no (by simp), frg_no (by simp), frg_no (by simp), frg_no (by simp), frg_no (by simp), I.mc.n1, I.mc.n2, I.mc.n3, nlpu, nleu⟩, frg_sub, D.up.wf, ?_, ⟨_, by rw [List.map_append, ← List.append_assoc]; exact H6⟩, I.zl, by rw [List.length_append, I.hl]; rfl, by rw [List.length_append, I.ll]; rfl, ?_, ?_, fun j a b ha hb => ?_, fun v hv => ?_, by rw [List.length_append, I.el]; rfl⟩
  · exact len_step D.up.len I.len
  · rw [g6lp]; simp
  · rw [g6le]; simp
  · by_cases hj : j < n + 1
    · rw [List.getElem?_append_left (by rw [List.length_append, I.ll]; simp; omega)] at ha
      rw [List.getElem?_append_left (by rw [List.length_append, I.hl]; simp; omega)] at hb
      obtain ⟨lk1, hk1, s⟩ := I.sn j a b ha hb
      exact ⟨lk1, hk1, (s.sub subF).up D.up (by omega)⟩
    · have hj1 : j = n + 1 := by
        have := (List.getElem?_eq_some_iff.mp ha).1
        simp only [List.length_append, I.ll, List.length_singleton] at this
        omega
      subst hj1
      rw [List.getElem?_append_right (by rw [List.length_append, I.ll]; simp), List.length_append, I.ll] at ha
      rw [List.getElem?_append_right (by rw [List.length_append, I.hl]; simp), List.length_append, I.hl] at hb
      simp at ha hb
      subst ha hb
      exact ⟨_, _, sn'⟩
  · rcases List.mem_append.mp hv with hv | hv
    · exact ((I.ev v hv).sub subF).up D.up (by omega)
    · rw [List.mem_singleton] at hv
      subst hv
      have g6e := nst5 g5e
      exact ⟨ba', r, bs', frg_of g6e fun hc => hLt _ hc _ g6e, bt'⟩
end
end SW
end

section
set_option Elab.async false
set_option linter.all false
set_option maxRecDepth 100000
set_option maxHeartbeats 4000000
/-! k85: behind the cells. -/
namespace SW
open PySem L2
set_option synthInstance.maxHeartbeats 200000
set_option synthInstance.maxSize 100000
theorem Inv85.mono {gF g g' : G} {h sh pa lp le un : Addr} {S : Sh} {zs : List V} {hs ls evs : List Addr} {kn kd : Addr} {n : Nat} (s : Sub g g') (I : Inv85 gF g h sh pa lp le un S zs hs ls evs kn kd n) : Inv85 gF g' h sh pa lp le un S zs hs ls evs kn kd n :=
  ⟨I.mc, I.sub.trans s, I.wf, I.len, let ⟨hk, H⟩ := I.H; ⟨hk, H.off s⟩, I.zl, I.hl, I.ll, s _ _ I.glp, s _ _ I.gle, I.sn, I.ev, I.el⟩
/-- behind the cells: the house stands at the j-th of its dicts -/
structure Fin85 (gF g : G) (h sh pa lp le un st : Addr) (S : Sh) (zs : List V) (H L evs : List Addr) (N j : Nat) : Prop where
  mc : Mc gF h sh pa lp le un
  sub : Sub gF g
  wf : WF S
  jn : j ≤ N
  Hl : H.length = N + 1
  Ll : L.length = N + 1
  n25 : N ≤ 25
  zl : zs.length = 3
  hs : ∃ a hk, H[j]? = some a ∧ HouseAt g h sh a pa un S hk (zs ++ (H.take j).map V.ref) ((H.drop (j + 1)).reverse.map V.ref)
  glp : g lp = some (.lst (L.map V.ref))
  gle : g le = some (.lst (evs.map V.ref))
  sn : ∀ (j : Nat) (a b : Addr), L[j]? = some a → H[j]? = some b → ∃ lk hk, Sn gF S N a b lk hk
  ev : ∀ v ∈ evs, EvAt gF S N v
  el : evs.length = N
  gst : ∃ d : Nat, g st = some (.lst [.int d])
  fst : gF st = none
  s1 : pa ≠ st
  s2 : un ≠ st
  s3 : lp ≠ st
  s4 : le ≠ st
theorem Fin85.offst {gF g g' : G} {h sh pa lp le un st : Addr} {S : Sh} {zs : List V} {H L evs : List Addr} {N j : Nat} (F : Fin85 gF g h sh pa lp le un st S zs H L evs N j) (o : Off st g g') (hst : ∃ d : Nat, g' st = some (.lst [.int d])) : Fin85 gF g' h sh pa lp le un st S zs H L evs N j := by
  obtain ⟨a, hk, ha, hh⟩ := F.hs
  obtain ⟨d, gst⟩ := F.gst
  exact ⟨F.mc, fun b u hb => o b u (fun z => by rw [z, F.fst] at hb; cases hb) (F.sub b u hb), F.wf, F.jn, F.Hl, F.Ll, F.n25, F.zl, ⟨a, hk, ha, hh.offst gst F.s1 F.s2 o⟩, o _ _ F.s3 F.glp, o _ _ F.s4 F.gle, F.sn, F.ev, F.el, hst, F.fst, F.s1, F.s2, F.s3, F.s4⟩
theorem Fin85.mono {gF g g' : G} {h sh pa lp le un st : Addr} {S : Sh} {zs : List V} {H L evs : List Addr} {N j : Nat} (F : Fin85 gF g h sh pa lp le un st S zs H L evs N j) (s : Sub g g') : Fin85 gF g' h sh pa lp le un st S zs H L evs N j := by
  obtain ⟨d, gst⟩ := F.gst
  exact F.offst (fun b u _ hb => s b u hb) ⟨d, s _ _ gst⟩
section
variable {kl : Addr → List V → Prop} {defs : Nat → Option FDef} {k : Nat} {gF g : G} {Q : VG} {E : XG} {h sh pa un lp le st : Addr} {S : Sh} {zs : List V} {H L evs : List Addr} {N j : Nat} [ld : LawD defs] [jd : JoD defs] [d3 : DefAt defs 3 d_is_name] [d52 : DefAt defs 52 d_repeated] [d57 : DefAt defs 57 d_put_in] [d58 : DefAt defs 58 d_taken_out]
  [d106 : DefAt defs 106 d_House_text] [d107 : DefAt defs 107 d_House_step] [d108 : DefAt defs 108 d_House_given] [d109 : DefAt defs 109 d_House_give] [d111 : DefAt defs 111 d_House_join_to] [d112 : DefAt defs 112 d_House_put_into] [d113 : DefAt defs 113 d_House_take_from] [d114 : DefAt defs 114 d_House_repeat] [d116 : DefAt defs 116 d_House_back] [d117 : DefAt defs 117 d_House_again]
  [d29 : DefAt defs 29 d_gathered] [d30 : DefAt defs 30 d_stretch_of] [d104 : DefAt defs 104 d_House_shelf] {er : Nat → L2.St → G → Prop} {nx : L2.St → G → Prop} {rt : VG} {bk ct : L2.St → G → Prop}
theorem Fin85.sub3 {g' : G} (F : Fin85 gF g h sh pa lp le un st S zs H L evs N j) (o : OffL [h, pa, un] g g') : Sub gF g' := o.sub F.sub fun c hc => by
  simp only [List.mem_cons, List.not_mem_nil, or_false] at hc
  rcases hc with rfl | rfl | rfl
  · exact F.mc.f1
  · exact F.mc.f3
  · exact F.mc.f6
theorem Fin85.rest3 {g' : G} {j' : Nat} (F : Fin85 gF g h sh pa lp le un st S zs H L evs N j) (o : OffL [h, pa, un] g g') (hj : j' ≤ N)
    (hh : ∃ a hk, H[j']? = some a ∧ HouseAt g' h sh a pa un S hk (zs ++ (H.take j').map V.ref) ((H.drop (j' + 1)).reverse.map V.ref)) : Fin85 gF g' h sh pa lp le un st S zs H L evs N j' := by
  obtain ⟨a, hk, ha, H0⟩ := F.hs
  obtain ⟨d, gst⟩ := F.gst
  have n1 : lp ≠ h := fun z => by have := F.glp; rw [z, H0.h] at this; cases this
  have n2 : le ≠ h := fun z => by have := F.gle; rw [z, H0.h] at this; cases this
  have n3 : st ≠ h := fun z => by rw [z, H0.h] at gst; cases gst
  exact ⟨F.mc, F.sub3 o, F.wf, hj, F.Hl, F.Ll, F.n25, F.zl, hh, o _ _ (by simp [n1, F.mc.n1.symm, F.mc.n4]) F.glp, o _ _ (by simp [n2, F.mc.n2.symm, F.mc.n5]) F.gle, F.sn, F.ev, F.el, ⟨d, o _ _ (by simp [n3, F.s1.symm, F.s2.symm]) gst⟩, F.fst, F.s1, F.s2, F.s3, F.s4⟩
theorem f_back (F : Fin85 gF g h sh pa lp le un st S zs H L evs N (j + 1)) (hk : 1 ≤ k) (q : ∀ g', Fin85 gF g' h sh pa lp le un st S zs H L evs N j → Q .non g') : Gam kl bsP defs k 116 [.ref h] g Q E := by
  obtain ⟨a, hk', ha, H0⟩ := F.hs
  have hj := F.jn
  have hjl : j < H.length := by rw [F.Hl]; omega
  have hb := List.getElem?_eq_getElem hjl
  obtain ⟨lk, hkb, sn⟩ := F.sn j (L[j]'(by rw [F.Ll]; omega)) H[j] (List.getElem?_eq_getElem _) hb
  have et : (H.take (j + 1)).map V.ref = (H.take j).map V.ref ++ [V.ref H[j]] := by rw [List.take_succ, hb, List.map_append]; rfl
  rw [et, ← List.append_assoc] at H0
  refine h_back H0 (F.sub _ _ sn.h) (by rw [List.length_map, List.length_reverse, List.length_drop, F.Hl]; have := F.n25; omega) hk fun g' H1 o => ?_
  refine q g' (F.rest3 o (by omega) ⟨_, hkb, hb, ?_⟩)
  have ed : (H.drop (j + 1)).reverse.map V.ref = (H.drop (j + 1 + 1)).reverse.map V.ref ++ [V.ref a] := by
    have hj2 : j + 1 < H.length := by rw [F.Hl]; omega
    have : H[j + 1] = a := by rw [List.getElem?_eq_getElem hj2] at ha; cases ha; rfl
    rw [List.drop_eq_getElem_cons hj2, List.reverse_cons, List.map_append, this]; rfl
  rw [ed]
  exact H1
theorem f_again (F : Fin85 gF g h sh pa lp le un st S zs H L evs N j) (hj : j < N) (hk : 1 ≤ k) (q : ∀ g', Fin85 gF g' h sh pa lp le un st S zs H L evs N (j + 1) → Q .non g') : Gam kl bsP defs k 117 [.ref h] g Q E := by
  obtain ⟨a, hk', ha, H0⟩ := F.hs
  have hj2 : j + 1 < H.length := by rw [F.Hl]; omega
  have hb := List.getElem?_eq_getElem hj2
  obtain ⟨lk, hkb, sn⟩ := F.sn (j + 1) (L[j + 1]'(by rw [F.Ll]; omega)) H[j + 1] (List.getElem?_eq_getElem _) hb
  have ed : (H.drop (j + 1)).reverse.map V.ref = (H.drop (j + 1 + 1)).reverse.map V.ref ++ [V.ref H[j + 1]] := by
    rw [List.drop_eq_getElem_cons hj2, List.reverse_cons, List.map_append]; rfl
  rw [ed] at H0
  refine h_again H0 (F.sub _ _ sn.h) (by rw [List.length_append, List.length_map, List.length_take, F.zl]; have := F.n25; omega) hk fun g' H1 o => ?_
  refine q g' (F.rest3 o (by omega) ⟨_, hkb, hb, ?_⟩)
  have et : (H.take (j + 1)).map V.ref = (H.take j).map V.ref ++ [V.ref a] := by rw [List.take_succ, ha, List.map_append]; rfl
  rw [et, ← List.append_assoc]
  exact H1
theorem f_same {ba t : Nat} {bs : Blk} (F : Fin85 gF g h sh pa lp le un st S zs H L evs N j) (B : Bt gF S N ba t bs) (hk : 110 ≤ k) (q : ∀ g', Off st g g' → Fin85 gF g' h sh pa lp le un st S zs H L evs N j → Q (.bl true) g') : Gam kl bsP defs k 209 [.ref h, .ref ba, .int t, .ref st] g Q E := by
  obtain ⟨a, hk', ha, H0⟩ := F.hs
  obtain ⟨d, gst⟩ := F.gst
  haveI : At g st _ := ⟨gst⟩
  have := F.n25
  have := B.ct
  exact l_same (d := d) H0.hh F.wf (B.at_.sub F.sub) B.ok (by omega) B.rd hk fun g' o s => q g' o (F.offst o s)
/-- a name's blocks and text -/
theorem f_nm {x : Str} (F : Fin85 gF g h sh pa lp le un st S zs H L evs N j) (hx : nmOk x) : ∃ ld lk a hk ps us ba t bs, L[j]? = some ld ∧ g ld = some (.dK lk) ∧ valV lk (.inr x) = some (.ref ba) ∧ HouseAt g h sh a pa un S hk ps us ∧ valV hk (.inr x) = some (nV t) ∧ Bt gF S N ba t bs := by
  obtain ⟨a, hk', ha, H0⟩ := F.hs
  have hj := F.jn
  have hl := List.getElem?_eq_getElem (show j < L.length by rw [F.Ll]; omega)
  obtain ⟨lk, hk, sn⟩ := F.sn j _ a hl ha
  have e : hk' = hk := by
    have h1 := H0.k
    rw [F.sub _ _ sn.h] at h1
    cases h1; rfl
  subst e
  obtain ⟨ba, t, bs, q1, q2, q3⟩ := sn.nm x hx
  exact ⟨_, lk, a, hk', _, _, ba, t, bs, hl, F.sub _ _ sn.l, q1, H0, q2, q3⟩
/-- a cell that the house has nothing to do with -/
structure Out85 (gF : G) (h sh pa lp le un st D : Addr) : Prop where
  f : gF D = none
  n1 : h ≠ D
  n2 : sh ≠ D
  n3 : pa ≠ D
  n4 : lp ≠ D
  n5 : le ≠ D
  n6 : un ≠ D
  n7 : st ≠ D
theorem Fin85.new {D : Addr} (F : Fin85 gF g h sh pa lp le un st S zs H L evs N j) (hD : g D = none) : Out85 gF h sh pa lp le un st D := by
  obtain ⟨a, hk', ha, H0⟩ := F.hs
  obtain ⟨d, gst⟩ := F.gst
  have n : ∀ {b o}, g b = some o → b ≠ D := fun {b o} hb z => by rw [z, hD] at hb; cases hb
  exact ⟨fr_of F.sub hD, n H0.h, n H0.s, n H0.p, n F.glp, n F.gle, n H0.u, n gst⟩
theorem Fin85.offD {g' : G} {D : Addr} (F : Fin85 gF g h sh pa lp le un st S zs H L evs N j) (O : Out85 gF h sh pa lp le un st D) (o : Off D g g') : Fin85 gF g' h sh pa lp le un st S zs H L evs N j := by
  obtain ⟨a, hk', ha, H0⟩ := F.hs
  obtain ⟨d, gst⟩ := F.gst
  have hj := F.jn
  obtain ⟨lk, hk, sn⟩ := F.sn j _ a (List.getElem?_eq_getElem (show j < L.length by rw [F.Ll]; omega)) ha
  have na : a ≠ D := fun z => by have := sn.h; rw [z, O.f] at this; cases this
  exact ⟨F.mc, fun b u hb => o b u (fun z => by rw [z, O.f] at hb; cases hb) (F.sub b u hb), F.wf, F.jn, F.Hl, F.Ll, F.n25, F.zl, ⟨a, hk', ha, ⟨o _ _ O.n1 H0.h, o _ _ O.n2 H0.s, o _ _ na H0.k, o _ _ O.n3 H0.p, o _ _ O.n6 H0.u, H0.ne⟩⟩, o _ _ O.n4 F.glp, o _ _ O.n5 F.gle, F.sn, F.ev, F.el, ⟨d, o _ _ O.n7 gst⟩, F.fst, F.s1, F.s2, F.s3, F.s4⟩
def nmI (i : Nat) : Str := ⟨#[97 + i]⟩
theorem nmI_ok {i : Nat} (h : i < 3) : nmOk (nmI i) := by
  match i, h with
  | 0, _ => exact .inl (by kernel_rfl)
  | 1, _ => exact .inr (.inl (by kernel_rfl))
  | 2, _ => exact .inr (.inr (by kernel_rfl))
theorem nm_lt {x : Str} (h : nmOk x) : ∃ i, i < 3 ∧ x = nmI i := by
  rcases h with rfl | rfl | rfl
  · exact ⟨0, by omega, by kernel_rfl⟩
  · exact ⟨1, by omega, by kernel_rfl⟩
  · exact ⟨2, by omega, by kernel_rfl⟩
theorem abc_item {i c : Nat} (h : i < 3) (hc : (Str.ofString "abc").cps[i]? = some c) : (⟨#[c]⟩ : Str) = nmI i := by
  have : (Str.ofString "abc").cps[i]? = some (97 + i) := by
    match i, h with
    | 0, _ => kernel_rfl
    | 1, _ => kernel_rfl
    | 2, _ => kernel_rfl
  rw [this] at hc
  cases hc
  rfl
theorem abc_len : (Sq.str (Str.ofString "abc")).len = 3 := by kernel_rfl
theorem cutV_mem {xs : List V} {lo hi : Option Int} {x : V} (h : x ∈ cutV xs lo hi) : x ∈ xs := by
  unfold cutV at h
  exact List.mem_of_mem_drop (List.mem_of_mem_take h)
def b_back : TSt := (sSeq (sDrop (eMt [(4, 116)] (eV 1) lNil)) sNext)
def b_again : TSt := (sSeq (sDrop (eMt [(4, 117)] (eV 1) lNil)) sNext)
def b_check : TSt := (sSeq (sIf (tNot (tVal (eFn 209 (lCons (eV 1) (lCons (eIx (eIx (eV 4) (eBin .Sub (eBin .Sub (eBi .len (lCons (eV 4) lNil)) (eC (.int 1))) (eV 10))) (eV 3)) (lCons (eMt [(4, 106)] (eV 1) (lCons (eV 3) lNil)) (lCons (eV 8) lNil))))))) (sSeq (sRet (eC (.bl false))) sNext) sNext) sNext)
def b_elder : TSt := (sSeq (sIf (tNot (tVal (eFn 209 (lCons (eV 1) (lCons (eV 9) (lCons (eV 12) (lCons (eV 8) lNil))))))) (sSeq (sRet (eC (.bl false))) sNext) sNext) sNext)
def e_all : T := (eLc (iVal (eC (.str "abc"))) (gN 3) tYes (eFn 209 (lCons (eV 1) (lCons (eIx (eIx (eV 4) (eNeg (eC (.int 1)))) (eV 3)) (lCons (eMt [(4, 106)] (eV 1) (lCons (eV 3) lNil)) (lCons (eV 8) lNil))))) [3])
def b_after : TSt := sSeq (sAsg (eFn 202 (lCons (eV 0) (lCons (eC (.int 1)) lNil))) (gN 8)) (sSeq (sAsg (eFn 203 (lCons (eV 8) (lCons (eBi .len (lCons (eV 4) lNil)) lNil))) (gN 10)) (sSeq (sFor (iRng1 (eV 10)) (gN 11) b_back) (sSeq (sFor (iVal (eC (.str "abc"))) (gN 3) b_check) (sSeq (sFor (iRng1 (eV 10)) (gN 11) b_again) (sSeq (sFor (iVal (eSl (eV 5) (oSome (eNeg (eC (.int 6)))) oNone)) (gTp [9, 12]) b_elder) (sSeq (sRet (eBi .all (lCons e_all lNil))) sNext))))))
theorem l_all {σ : L2.St} {x0 x2 x3 x5 x6 x7 x9 x10 x11 x12 : Option V} (F : Fin85 gF g h sh pa lp le un st S zs H L evs N N) (hkk : 111 ≤ k) (hσ : σ = [x0, some (.ref h), x2, x3, some (.ref lp), x5, x6, x7, some (.ref st), x9, x10, x11, x12])
    (q : ∀ g', Q (.bl true) g') : eBi .all (lCons e_all lNil) ⟨kl, Gam kl bsP defs k, er⟩ σ g Q := by
  subst hσ
  unfold e_all
  repeat refine go ?_
  intro D hD
  have O := F.new hD
  refine ⟨fun i acc g2 => i ≤ 3 ∧ acc = (List.replicate i true).map V.bl ∧ Fin85 gF g2 h sh pa lp le un st S zs H L evs N N ∧ g2 D = some (.lst acc), ⟨by omega, rfl, F.offD O off_gu, gus⟩, ?_⟩
  rintro i acc g2 ⟨hi, rfl, F2, gD⟩
  refine ⟨trivial, gD, ?_⟩
  rw [abc_len]
  by_cases hlt : i < 3
  · rw [if_pos hlt]
    refine go ?_
    intro c hc
    rw [abc_item hlt hc]
    show (gN 3) _ _ [x0, some (.ref h), x2, none, some (.ref lp), x5, x6, x7, some (.ref st), x9, x10, x11, x12] _ _
    obtain ⟨ld, lk, a, hk, ps, us, ba, t, bs, q1, q2, q3, H0, q4, B⟩ := f_nm F2 (nmI_ok hlt)
    haveI i1 : At g2 lp _ := ⟨F2.glp⟩
    haveI i2 : At g2 ld _ := ⟨q2⟩
    haveI i3 : At g2 h _ := ⟨H0.h⟩
    repeat refine go ?_
    refine ⟨rfl, ?_⟩
    repeat refine go ?_
    have ea : atI (L.map V.ref) (-1) = some (.ref ld) := by
      unfold atI ixN
      rw [if_neg (by omega), if_pos (by rw [List.length_map, F2.Ll]; omega), List.length_map, F2.Ll]
      show (L.map V.ref)[(((N + 1 : Nat) : Int) + -1).toNat]? = _
      have : (((N + 1 : Nat) : Int) + -1).toNat = N := by omega
      rw [this, List.getElem?_map, q1]; rfl
    refine ⟨_, ea, ?_⟩
    repeat refine go ?_
    refine ix_dS q3 ?_
    repeat refine go ?_
    refine h_text H0 q4 (by omega) ?_
    repeat refine go ?_
    refine f_same F2 B (by omega) fun g3 o F3 => ?_
    refine ⟨o _ _ O.n7.symm gD, by rw [List.length_map, List.length_replicate]; simp [sizeLine]; omega, _, Sub.refl _, by omega, ?_, F3.offD O off_gu, gus⟩
    rw [List.replicate_succ', List.map_append]; rfl
  · rw [if_neg hlt]
    have hie : i = 3 := by omega
    subst hie
    repeat refine go ?_
    exact ⟨D, List.replicate 3 true, rfl, .inl gD, q _⟩
theorem l_after {sc : Addr} {ns : List Int} {kn kd : Addr} {hs ls : List Addr} {n : Nat} {x3 x6 x7 x8 x9 x10 x11 x12 : Option V} (I : Inv85 gF g h sh pa lp le un S zs hs ls evs kn kd n) (hn : n ≤ 25) (hsc : kl sc (ns.map V.int)) (hl : ns.length ≤ 63) (hkk : 111 ≤ k) (q : ∀ g', rt (.bl true) g') :
    b_after ⟨kl, Gam kl bsP defs k, er⟩ ⟨nx, rt, bk, ct⟩ [some (.ref sc), some (.ref h), some (.ref kd), x3, some (.ref lp), some (.ref le), x6, x7, x8, x9, x10, x11, x12] g := by
  unfold b_after
  have hsz : sizeLine = 16777216 := rfl
  have b40 : (10 : Nat) ^ 40 > 10 ^ 20 := by decide +kernel
  have b20 : (10 : Nat) ^ 20 = 100000000000000000000 := by decide +kernel
  repeat refine go ?_
  refine l_stream (ns := ns) (k0 := 1) (.inr hsc) hl (by omega) (by omega) fun g1 d st s1 fst gst => ?_
  have I1 := I.mono s1
  obtain ⟨hk, HH⟩ := I1.H
  have nst : ∀ {b o}, g b = some o → b ≠ st := fun {b o} hb z => by rw [z, fst] at hb; cases hb
  obtain ⟨hk0, HH0⟩ := I.H
  have F : Fin85 gF g1 h sh pa lp le un st S zs (hs ++ [kn]) (ls ++ [kd]) evs n n := by
    refine ⟨I1.mc, I1.sub, I1.wf, Nat.le_refl _, by rw [List.length_append, I.hl]; rfl, by rw [List.length_append, I.ll]; rfl, hn, I.zl, ⟨kn, hk, ?_, ?_⟩, I1.glp, I1.gle, I.sn, I.ev, I.el, ⟨d, gst⟩, fr_of I.sub fst, nst HH0.p, nst HH0.u, nst I.glp, nst I.gle⟩
    · rw [List.getElem?_append_right (by rw [I.hl]; omega), I.hl]; simp
    · rw [List.take_left' I.hl, List.drop_of_length_le (by rw [List.length_append, I.hl]; simp)]
      exact HH
  generalize hs ++ [kn] = H at F
  generalize hL : ls ++ [kd] = L at F
  haveI i1 : At g1 lp _ := ⟨F.glp⟩
  haveI i2 : At g1 st _ := ⟨gst⟩
  repeat refine go ?_
  rw [List.length_map, F.Ll]
  refine l_draw (by omega) (by omega) (by omega) fun back d' hback => ?_
  have F1 := F.offst off_gu ⟨d', gus⟩
  generalize gu g1 st (.lst [.int d']) = g2 at F1
  repeat refine go ?_
  refine ⟨by omega, by omega, ?_⟩
  rw [Int.toNat_natCast]
  -- taken back
  refine ⟨fun i s g' => i ≤ back ∧ ∃ y11, s = [some (.ref sc), some (.ref h), some (.ref kd), x3, some (.ref lp), some (.ref le), x6, x7, some (.ref st), x9, some (.int back), y11, x12] ∧ Fin85 gF g' h sh pa lp le un st S zs H L evs n (n - i), ⟨by omega, _, rfl, F1⟩, ?_⟩
  rintro i s g' ⟨hi, y11, rfl, F2⟩
  refine ⟨trivial, ?_⟩
  show if i < back then _ else _
  by_cases hlt : i < back
  · rw [if_pos hlt]
    obtain ⟨a, hk1, _, H1⟩ := F2.hs
    haveI i3 : At g' h _ := ⟨H1.h⟩
    unfold b_back
    repeat refine go ?_
    have e1 : n - i = (n - (i + 1)) + 1 := by omega
    rw [e1] at F2
    refine f_back F2 (by omega) fun g3 F3 => ?_
    repeat refine go ?_
    exact ⟨_, Sub.refl _, by omega, _, rfl, F3⟩
  rw [if_neg hlt]
  have hie : i = back := by omega
  subst hie
  repeat refine go ?_
  -- looked at
  refine ⟨fun j s g' => j ≤ 3 ∧ ∃ y3 y11, s = [some (.ref sc), some (.ref h), some (.ref kd), y3, some (.ref lp), some (.ref le), x6, x7, some (.ref st), x9, some (.int i), y11, x12] ∧ Fin85 gF g' h sh pa lp le un st S zs H L evs n (n - i), ⟨by omega, _, _, rfl, F2⟩, ?_⟩
  rintro j s g3 ⟨hj, y3, y11, rfl, F3⟩
  refine ⟨trivial, ?_⟩
  rw [abc_len]
  by_cases hlt2 : j < 3
  · rw [if_pos hlt2]
    refine go ?_
    intro c hc
    rw [abc_item hlt2 hc]
    obtain ⟨ld, lk, a, hk, ps, us, ba, t, bs, q1, q2, q3, H0, q4, B⟩ := f_nm F3 (nmI_ok hlt2)
    haveI i3 : At g3 lp _ := ⟨F3.glp⟩
    haveI i4 : At g3 ld _ := ⟨q2⟩
    haveI i5 : At g3 h _ := ⟨H0.h⟩
    unfold b_check
    repeat refine go ?_
    rw [List.length_map, F3.Ll]
    have ei : ((n + 1 : Nat) : Int) - 1 - (i : Int) = ((n - i : Nat) : Int) := by omega
    rw [ei]
    have ea : atI (L.map V.ref) ((n - i : Nat) : Int) = some (.ref ld) := by
      rw [atI_nat (by rw [List.length_map, F3.Ll]; omega), List.getElem_map]
      rw [List.getElem?_eq_getElem (by rw [F3.Ll]; omega)] at q1
      cases q1; rfl
    refine ⟨_, ea, ?_⟩
    repeat refine go ?_
    refine ix_dS q3 ?_
    repeat refine go ?_
    refine h_text H0 q4 (by omega) ?_
    repeat refine go ?_
    refine f_same F3 B (by omega) fun g4 o F4 => ?_
    repeat refine go ?_
    exact ⟨_, Sub.refl _, by omega, _, _, rfl, F4⟩
  rw [if_neg hlt2]
  repeat refine go ?_
  refine ⟨by omega, by omega, ?_⟩
  rw [Int.toNat_natCast]
  -- done again
  refine ⟨fun m s g' => m ≤ i ∧ ∃ y11, s = [some (.ref sc), some (.ref h), some (.ref kd), y3, some (.ref lp), some (.ref le), x6, x7, some (.ref st), x9, some (.int i), y11, x12] ∧ Fin85 gF g' h sh pa lp le un st S zs H L evs n (n - i + m), ⟨by omega, _, rfl, F3⟩, ?_⟩
  rintro m s g4 ⟨hm, y11, rfl, F4⟩
  refine ⟨trivial, ?_⟩
  show if m < i then _ else _
  by_cases hlt3 : m < i
  · rw [if_pos hlt3]
    obtain ⟨a, hk1, _, H1⟩ := F4.hs
    haveI i3 : At g4 h _ := ⟨H1.h⟩
    unfold b_again
    repeat refine go ?_
    refine f_again F4 (by omega) (by omega) fun g5 F5 => ?_
    repeat refine go ?_
    exact ⟨_, Sub.refl _, by omega, _, rfl, F5⟩
  rw [if_neg hlt3]
  have hmi : m = i := by omega
  subst hmi
  have enn : n - m + m = n := by omega
  rw [enn] at F4
  haveI i6 : At g4 le _ := ⟨F4.gle⟩
  repeat refine go ?_
  intro q0 hq0
  have F5 := F4.mono (Sub.new (o := .lst (cutV (evs.map V.ref) (some (-6)) none)) hq0)
  have O := F4.new hq0
  repeat refine go ?_
  -- elder texts
  refine ⟨fun v s g' => v ≤ (cutV (evs.map V.ref) (some (-6)) none).length ∧ g' q0 = some (.lst (cutV (evs.map V.ref) (some (-6)) none)) ∧ ∃ y9 y11 y12, s = [some (.ref sc), some (.ref h), some (.ref kd), y3, some (.ref lp), some (.ref le), x6, x7, some (.ref st), y9, some (.int m), y11, y12] ∧ Fin85 gF g' h sh pa lp le un st S zs H L evs n n, ⟨by omega, gus, _, _, _, rfl, F5⟩, ?_⟩
  rintro v s g6 ⟨hv, gq, y9, y11, y12, rfl, F6⟩
  refine ⟨.inl gq, ?_⟩
  show if v < (cutV (evs.map V.ref) (some (-6)) none).length then _ else _
  by_cases hlt4 : v < (cutV (evs.map V.ref) (some (-6)) none).length
  · rw [if_pos hlt4]
    refine go ?_
    intro x hx
    obtain ⟨w, hw, rfl⟩ := List.mem_map.mp (cutV_mem (List.mem_of_getElem? hx))
    obtain ⟨ba, t, bs, e1, B⟩ := F6.ev w hw
    haveI i7 : At g6 w _ := ⟨F6.sub _ _ e1⟩
    repeat refine go ?_
    refine ⟨rfl, ?_⟩
    unfold b_elder
    repeat refine go ?_
    refine f_same F6 B (by omega) fun g7 o F7 => ?_
    repeat refine go ?_
    exact ⟨_, Sub.refl _, by omega, o _ _ O.n7.symm gq, _, _, _, rfl, F7⟩
  rw [if_neg hlt4]
  refine go (go ?_)
  exact l_all F6 hkk rfl q
end
end SW
end

section
set_option Elab.async false
set_option linter.all false
set_option maxRecDepth 100000
set_option maxHeartbeats 4000000
namespace SW
open PySem L2
set_option synthInstance.maxHeartbeats 200000
set_option synthInstance.maxSize 100000
theorem shD_ok : ShD (defsOf ents) := ⟨rfl, rfl, rfl, rfl, rfl, rfl, rfl, rfl, rfl, rfl, rfl, rfl, rfl, rfl, rfl, rfl, rfl⟩
instance : LawD (defsOf ents) := ⟨rfl, rfl, rfl, rfl, rfl, rfl, rfl, rfl, rfl, rfl, rfl⟩
instance : JoD (defsOf ents) := ⟨rfl, rfl, rfl, rfl, rfl, rfl, rfl, rfl, rfl, rfl, rfl, rfl, rfl, rfl, rfl, rfl, rfl⟩
instance : DefAt (defsOf ents) 3 d_is_name := ⟨rfl⟩
instance : DefAt (defsOf ents) 29 d_gathered := ⟨rfl⟩
instance : DefAt (defsOf ents) 30 d_stretch_of := ⟨rfl⟩
instance : DefAt (defsOf ents) 52 d_repeated := ⟨rfl⟩
instance : DefAt (defsOf ents) 57 d_put_in := ⟨rfl⟩
instance : DefAt (defsOf ents) 58 d_taken_out := ⟨rfl⟩
instance : DefAt (defsOf ents) 103 d_House___init__ := ⟨rfl⟩
instance : DefAt (defsOf ents) 104 d_House_shelf := ⟨rfl⟩
instance : DefAt (defsOf ents) 106 d_House_text := ⟨rfl⟩
instance : DefAt (defsOf ents) 107 d_House_step := ⟨rfl⟩
instance : DefAt (defsOf ents) 108 d_House_given := ⟨rfl⟩
instance : DefAt (defsOf ents) 109 d_House_give := ⟨rfl⟩
instance : DefAt (defsOf ents) 111 d_House_join_to := ⟨rfl⟩
instance : DefAt (defsOf ents) 112 d_House_put_into := ⟨rfl⟩
instance : DefAt (defsOf ents) 113 d_House_take_from := ⟨rfl⟩
instance : DefAt (defsOf ents) 114 d_House_repeat := ⟨rfl⟩
instance : DefAt (defsOf ents) 116 d_House_back := ⟨rfl⟩
instance : DefAt (defsOf ents) 117 d_House_again := ⟨rfl⟩
def b_pre : TSt := (sSeq (sDrop (eMt [(4, 109)] (eV 1) (lCons (eV 3) (lCons (eC (.str "")) lNil)))) (sSeq (sSetIx (eV 2) (eV 3) (eLst lNil)) sNext))
theorem b_law_eq : b_law = sSeq (sAsg (eMk 4 103 lNil) (gN 1)) (sSeq (sAsg eDict0 (gN 2)) (sSeq (sFor (iVal (eC (.str "abc"))) (gN 3) b_pre) (sSeq (sAsg (eLst (lCons (eV 2) lNil)) (gN 4)) (sSeq (sAsg (eLst lNil) (gN 5)) (sSeq (sFor (iEnm (eBin .Add (eSl (eV 0) oNone (oSome (eC (.int 20)))) (eLst (lCons (eC (.int 0)) (lCons (eC (.int 1)) (lCons (eC (.int 2)) (lCons (eC (.int 3)) (lCons (eC (.int 4)) lNil)))))))) (gTp [6, 7]) b_turn85) b_after))))) := rfl
section
variable {kl : Addr → List V → Prop} {defs : Nat → Option FDef} {k : Nat} {gF g : G} {Q : VG} {E : XG} {h sh pa un lp le st : Addr} {S : Sh} [ld : LawD defs] [jd : JoD defs] [d3 : DefAt defs 3 d_is_name] [d52 : DefAt defs 52 d_repeated] [d57 : DefAt defs 57 d_put_in] [d58 : DefAt defs 58 d_taken_out]
  [d106 : DefAt defs 106 d_House_text] [d107 : DefAt defs 107 d_House_step] [d108 : DefAt defs 108 d_House_given] [d109 : DefAt defs 109 d_House_give] [d111 : DefAt defs 111 d_House_join_to] [d112 : DefAt defs 112 d_House_put_into] [d113 : DefAt defs 113 d_House_take_from] [d114 : DefAt defs 114 d_House_repeat] [d116 : DefAt defs 116 d_House_back] [d117 : DefAt defs 117 d_House_again]
  {er : Nat → L2.St → G → Prop} {nx : L2.St → G → Prop} {rt : VG} {bk ct : L2.St → G → Prop}
/-- while the first texts are given -/
structure Pre85 (gF g : G) (h sh kn pa un kd : Addr) (S : Sh) (hk lk : List (Key × V)) (ps : List V) (i : Nat) : Prop where
  H : HouseAt g h sh kn pa un S hk ps []
  pl : ps.length = i
  wf : WF S
  len : S.length ≤ 10 * i
  sub : Sub gF g
  f1 : gF h = none
  f2 : gF sh = none
  f3 : gF pa = none
  f4 : gF un = none
  f5 : gF kd = none
  gkd : g kd = some (.dK lk)
  ll : lk.length ≤ i
  hl : hk.length ≤ i
  nm : ∀ j, j < i → ∃ ba t, valV lk (.inr (nmI j)) = some (.ref ba) ∧ valV hk (.inr (nmI j)) = some (nV t) ∧ Bt gF S 0 ba t []
theorem putK_len' {κ : Type} [DecidableEq κ] (kvs : List (κ × V)) (k : κ) (v : V) : (putK kvs k v).length ≤ kvs.length + 1 := by
  unfold putK
  split <;> simp
theorem l_pre {kn kd : Addr} {hk lk : List (Key × V)} {ps : List V} {i : Nat} {x0 x4 x5 x6 x7 x8 x9 x10 x11 x12 : Option V} (P : Pre85 gF g h sh kn pa un kd S hk lk ps i) (hi : i < 3) (hkk : 40 ≤ k)
    (next : ∀ gF' g' S' kn' un' hk' lk' ps', Pre85 gF' g' h sh kn' pa un' kd S' hk' lk' ps' (i + 1) → nx [x0, some (.ref h), some (.ref kd), some (.str (nmI i)), x4, x5, x6, x7, x8, x9, x10, x11, x12] g') :
    b_pre ⟨kl, Gam kl bsP defs k, er⟩ ⟨nx, rt, bk, ct⟩ [x0, some (.ref h), some (.ref kd), some (.str (nmI i)), x4, x5, x6, x7, x8, x9, x10, x11, x12] g := by
  have hsz : sizeLine = 16777216 := rfl
  unfold b_pre
  haveI i1 : At g h _ := ⟨P.H.h⟩
  have pl := P.pl
  have hl := P.hl
  have ll := P.ll
  have hlen := P.len
  have b19 : (2 : Nat) ^ 19 = 524288 := by decide +kernel
  have ez : sz (Str.ofString "") = 0 := by kernel_rfl
  obtain ⟨r, S', c, hd, gd, hc⟩ := s_bu (n := 19) (x := Str.ofString "") P.wf (by decide +kernel) (by omega) (by omega) (by omega)
  repeat refine go ?_
  refine h_give P.H (nm_ok (nmI_ok hi)) hd (by omega) (by omega) (by omega) fun g1 kn' un' D => ?_
  have nkh : kd ≠ h := fun z => by have := P.gkd; rw [z, P.H.h] at this; cases this
  have nks : kd ≠ sh := fun z => by have := P.gkd; rw [z, P.H.s] at this; cases this
  have nkp : kd ≠ pa := fun z => by have := P.gkd; rw [z, P.H.p] at this; cases this
  have g1kd := D.off kd _ (by simp [nkh, nks, nkp]) P.gkd
  haveI i2 : At g1 kd _ := ⟨g1kd⟩
  repeat refine go ?_
  refine ⟨by simp, fun ba fba => ?_⟩
  have g1ba : g1 ba = none := fba.h
  have n : ∀ {b o}, g1 b = some o → b ≠ ba := fun {b o} hb z => by rw [z, g1ba] at hb; cases hb
  haveI i3 : NeA kd ba := ⟨n g1kd⟩
  repeat refine go ?_
  refine put_dS (by omega) ?_
  repeat refine go ?_
  have o3 : ∀ b o, b ≠ kd → g1 b = some o → (gu (gu g1 ba (.lst [])) kd (.dK (putK lk (.inr (nmI i)) (.ref ba)))) b = some o := fun b o hb e => by rw [gun hb]; exact Sub.new g1ba _ _ e
  have g3ba : (gu (gu g1 ba (.lst [])) kd (.dK (putK lk (.inr (nmI i)) (.ref ba)))) ba = some (.lst []) := by rw [gun i3.h.symm, gus]
  have g3kd : (gu (gu g1 ba (.lst [])) kd (.dK (putK lk (.inr (nmI i)) (.ref ba)))) kd = some (.dK (putK lk (.inr (nmI i)) (.ref ba))) := gus
  generalize (gu (gu g1 ba (.lst [])) kd (.dK (putK lk (.inr (nmI i)) (.ref ba)))) = g3 at *
  have Hk := D.at_
  have kn_kd : kn' ≠ kd := fun z => by have := D.fk; rw [z, P.gkd] at this; cases this
  have un_kd : un' ≠ kd := fun z => by have := D.fu; rw [z, P.gkd] at this; cases this
  have H3 : HouseAt g3 h sh kn' pa un' S' (putK hk (.inr (nmI i)) (nV r)) (ps ++ [.ref kn]) [] := ⟨o3 _ _ nkh.symm Hk.h, o3 _ _ nks.symm Hk.s, o3 _ _ kn_kd Hk.k, o3 _ _ nkp.symm Hk.p, o3 _ _ un_kd Hk.u, Hk.ne⟩
  have s1 : Sub gF g1 := D.off.sub P.sub fun c hc => by
    simp only [List.mem_cons, List.not_mem_nil, or_false] at hc
    rcases hc with rfl | rfl | rfl
    · exact P.f1
    · exact P.f2
    · exact P.f3
  have s3 : Sub gF g3 := fun b o hb => o3 b o (fun z => by rw [z, P.f5] at hb; cases hb) (s1 b o hb)
  have fun' : gF un' = none := fr_of P.sub D.fu
  have subF : Sub gF (frg g3 [h, sh, pa, un', kd]) := frg_ext s3 fun c hc => by
    simp only [List.mem_cons, List.not_mem_nil, or_false] at hc
    rcases hc with rfl | rfl | rfl | rfl | rfl
    · exact P.f1
    · exact P.f2
    · exact P.f3
    · exact fun'
    · exact P.f5
  refine next (frg g3 [h, sh, pa, un', kd]) g3 S' kn' un' _ _ _ ⟨H3, by rw [List.length_append, pl]; rfl, gd.up.wf, ?_, frg_sub, frg_no (by simp), frg_no (by simp), frg_no (by simp), frg_no (by simp), frg_no (by simp), g3kd, ?_, ?_, fun j hj => ?_⟩
  · have := gd.up.len; omega
  · have := putK_len' lk (.inr (nmI i)) (.ref ba); omega
  · have := putK_len' hk (.inr (nmI i)) (nV r); omega
  · by_cases e : j = i
    · subst e
      refine ⟨ba, r, by rw [valV_put, if_pos rfl], by rw [valV_put, if_pos rfl], ⟨⟨[], frg_of g3ba (by simp [(n Hk.h).symm, (n Hk.s).symm, (n Hk.p).symm, (n Hk.u).symm, i3.h.symm]), .nil⟩, fun p hp => (nomatch hp), ⟨gd.r1, ?_⟩, by simp [bl_nil], by simp⟩⟩
      rw [gd.rd]; kernel_rfl
    · obtain ⟨ba1, t1, q1, q2, q3⟩ := P.nm j (by omega)
      have ek : (Sum.inr (nmI j) : Key) ≠ .inr (nmI i) := fun z => e (by
        injection z with z
        have := congrArg (fun s : Str => s.cps.toList) z
        simp [nmI] at this
        exact this)
      exact ⟨ba1, t1, by rw [valV_put, if_neg ek]; exact q1, by rw [valV_put, if_neg ek]; exact q2, (q3.sub subF).up gd.up (Nat.le_refl _)⟩
end
theorem law_main (a : Addr) (ns : List Int) (hl : ns.length ≤ 63) {E : XG} : Gam (fun b ys => b = a ∧ ys = ns.map V.int) bsP (defsOf ents) 112 F_law [.ref a] (fun _ => none) (fun v _ => v = .bl true) E := by
  refine gam_of (LawD.h211) rfl ?_
  show b_law _ _ [some (.ref a), none, none, none, none, none, none, none, none, none, none, none, none] _
  rw [b_law_eq]
  have hsz : sizeLine = 16777216 := rfl
  repeat refine go ?_
  intro h hh
  refine h_init gus (by omega) fun g1 sh kn pa un H1 o1 fs1 fk1 fp1 fu1 => ⟨rfl, ?_⟩
  repeat refine go ?_
  refine .inl fun kd hkd => ?_
  repeat refine go ?_
  have H2 := H1.off (Sub.new (o := .dK []) hkd)
  refine ⟨fun i s g => i ≤ 3 ∧ ∃ gF S kn un hk lk ps v3, s = [some (.ref a), some (.ref h), some (.ref kd), v3, none, none, none, none, none, none, none, none, none] ∧ Pre85 gF g h sh kn pa un kd S hk lk ps i,
    ⟨by omega, fun _ => none, [], kn, un, [], [], [], none, rfl, ⟨H2, rfl, .nil, by simp, fun b o hb => (nomatch hb), rfl, rfl, rfl, rfl, rfl, gus, by simp, by simp, fun j hj => by omega⟩⟩, ?_⟩
  rintro i s g2 ⟨hi, gF, S, kn2, un2, hk, lk, ps, v3, rfl, P⟩
  refine ⟨trivial, ?_⟩
  rw [abc_len]
  by_cases hlt : i < 3
  · rw [if_pos hlt]
    refine go ?_
    intro c hc
    rw [abc_item hlt hc]
    refine go ?_
    refine l_pre P hlt (by omega) fun gF' g' S' kn' un' hk' lk' ps' P' => ?_
    exact ⟨_, Sub.refl _, by omega, gF', S', kn', un', hk', lk', ps', _, rfl, P'⟩
  rw [if_neg hlt]
  have hie : i = 3 := by omega
  subst hie
  repeat refine go ?_
  refine ⟨by simp [sizeLine], fun lp flp => ?_⟩
  repeat refine go ?_
  refine ⟨by simp, fun le fle => ?_⟩
  repeat refine go ?_
  refine ⟨ns.map V.int, .inr ⟨rfl, rfl⟩, fun s1 hs1 => ?_⟩
  rw [show (20 : Int) = ((20 : Nat) : Int) from rfl, cutV_to, ← List.map_take]
  have f1 : Fr (gu (gu g2 lp (.lst [.ref kd])) le (.lst [])) s1 := ⟨hs1⟩
  repeat refine go ?_
  refine ⟨by simp [sizeLine], fun s2 fs2 => ?_⟩
  repeat refine go ?_
  have hl20 : (ns.take 20).length ≤ 20 := by rw [List.length_take]; omega
  refine ⟨by rw [List.length_map]; show (ns.take 20).length + 5 ≤ _; omega, fun sc fsc => ?_⟩
  have ecl : (ns.take 20).map V.int ++ [V.int 0, V.int 1, V.int 2, V.int 3, V.int 4] = (ns.take 20 ++ [0, 1, 2, 3, 4]).map V.int := by simp
  rw [ecl]
  generalize hcs : ns.take 20 ++ [0, 1, 2, 3, 4] = cs
  have lcs : cs.length ≤ 25 := by rw [← hcs, List.length_append]; show (ns.take 20).length + 5 ≤ 25; omega
  have s02 : Sub g2 (gu (gu (gu (gu (gu g2 lp (.lst [.ref kd])) le (.lst [])) s1 (.lst ((ns.take 20).map V.int))) s2 (.lst [.int 0, .int 1, .int 2, .int 3, .int 4])) sc (.lst (cs.map V.int))) :=
    ((((Sub.new flp.h).trans (Sub.new fle.h)).trans (Sub.new hs1)).trans (Sub.new fs2.h)).trans (Sub.new fsc)
  haveI a1 : NeA lp le := NeA.of_fr (o := .lst [.ref kd]) inferInstance fle
  have glp : (gu (gu (gu (gu (gu g2 lp (.lst [.ref kd])) le (.lst [])) s1 (.lst ((ns.take 20).map V.int))) s2 (.lst [.int 0, .int 1, .int 2, .int 3, .int 4])) sc (.lst (cs.map V.int))) lp = some (.lst [.ref kd]) := Sub.new fsc _ _ (Sub.new fs2.h _ _ (Sub.new hs1 _ _ (Sub.new fle.h _ _ gus)))
  have gle : (gu (gu (gu (gu (gu g2 lp (.lst [.ref kd])) le (.lst [])) s1 (.lst ((ns.take 20).map V.int))) s2 (.lst [.int 0, .int 1, .int 2, .int 3, .int 4])) sc (.lst (cs.map V.int))) le = some (.lst []) := Sub.new fsc _ _ (Sub.new fs2.h _ _ (Sub.new hs1 _ _ gus))
  have gsc : (gu (gu (gu (gu (gu g2 lp (.lst [.ref kd])) le (.lst [])) s1 (.lst ((ns.take 20).map V.int))) s2 (.lst [.int 0, .int 1, .int 2, .int 3, .int 4])) sc (.lst (cs.map V.int))) sc = some (.lst (cs.map V.int)) := gus
  have nsc : ∀ {b o}, g2 b = some o → b ≠ sc := fun {b o} hb z => by
    have h1 := Sub.new (o := .lst [.int 0, .int 1, .int 2, .int 3, .int 4]) fs2.h _ _ (Sub.new (o := .lst ((ns.take 20).map V.int)) hs1 _ _ (Sub.new (o := .lst []) fle.h _ _ (Sub.new (o := .lst [.ref kd]) flp.h _ _ hb)))
    rw [z, fsc] at h1; cases h1
  have nlp : ∀ {b o}, g2 b = some o → b ≠ lp := fun {b o} hb z => by rw [z, flp.h] at hb; cases hb
  have nle : ∀ {b o}, g2 b = some o → b ≠ le := fun {b o} hb z => by
    have h1 := Sub.new (o := .lst [.ref kd]) flp.h _ _ hb
    rw [z, fle.h] at h1; cases h1
  have sc_lp : sc ≠ lp := fun z => by
    have h1 : (gu (gu (gu (gu g2 lp (.lst [.ref kd])) le (.lst [])) s1 (.lst ((ns.take 20).map V.int))) s2 (.lst [.int 0, .int 1, .int 2, .int 3, .int 4])) lp = some (.lst [.ref kd]) := Sub.new fs2.h _ _ (Sub.new hs1 _ _ (Sub.new fle.h _ _ gus))
    have h2 := fsc
    rw [z, h1] at h2; cases h2
  have sc_le : sc ≠ le := fun z => by
    have h1 : (gu (gu (gu (gu g2 lp (.lst [.ref kd])) le (.lst [])) s1 (.lst ((ns.take 20).map V.int))) s2 (.lst [.int 0, .int 1, .int 2, .int 3, .int 4])) le = some (.lst []) := Sub.new fs2.h _ _ (Sub.new hs1 _ _ gus)
    have h2 := fsc
    rw [z, h1] at h2; cases h2
  generalize (gu (gu (gu (gu (gu g2 lp (.lst [.ref kd])) le (.lst [])) s1 (.lst ((ns.take 20).map V.int))) s2 (.lst [.int 0, .int 1, .int 2, .int 3, .int 4])) sc (.lst (cs.map V.int))) = g3 at *
  have H3 := P.H.off s02
  have fgl : ∀ c ∈ [h, sh, pa, lp, le, un2], gF c = none := fun c hc => by
    simp only [List.mem_cons, List.not_mem_nil, or_false] at hc
    rcases hc with rfl | rfl | rfl | rfl | rfl | rfl
    · exact P.f1
    · exact P.f2
    · exact P.f3
    · exact fr_of P.sub flp.h
    · exact fr_of (P.sub.trans (Sub.new (o := .lst [.ref kd]) flp.h)) fle.h
    · exact P.f4
  have subF : Sub gF (frg g3 [h, sh, pa, lp, le, un2]) := frg_ext (P.sub.trans s02) fgl
  have I0 : Inv85 (frg g3 [h, sh, pa, lp, le, un2]) g3 h sh pa lp le un2 S ps [] [] [] kn2 kd 0 := by
    refine ⟨⟨frg_no (by simp), frg_no (by simp), frg_no (by simp), frg_no (by simp), frg_no (by simp), frg_no (by simp), nlp P.H.p, nle P.H.p, a1.h, (nlp P.H.u).symm, (nle P.H.u).symm⟩, frg_sub, P.wf, by have := P.len; omega, ⟨hk, by simpa using H3⟩, P.pl, rfl, rfl, glp, gle, fun j x y hx hy => ?_, fun v hv => (nomatch hv), rfl⟩
    have hj : j = 0 := by have := (List.getElem?_eq_some_iff.mp hx).1; simp at this; omega
    subst hj
    simp at hx hy
    subst hx hy
    have nk : ∀ {b kvs}, g2 b = some (.dK kvs) → b ∉ [h, sh, pa, lp, le, un2] := fun {b kvs} hb hc => by
      simp only [List.mem_cons, List.not_mem_nil, or_false] at hc
      rcases hc with rfl | rfl | rfl | rfl | rfl | rfl
      · rw [P.H.h] at hb; cases hb
      · rw [P.H.s] at hb; cases hb
      · rw [P.H.p] at hb; cases hb
      · exact nlp hb rfl
      · exact nle hb rfl
      · rw [P.H.u] at hb; cases hb
    refine ⟨lk, hk, ⟨frg_of (s02 _ _ P.gkd) (nk P.gkd), frg_of (s02 _ _ P.H.k) (nk P.H.k), P.ll, P.hl, fun x hx => ?_⟩⟩
    obtain ⟨i, hi, rfl⟩ := nm_lt hx
    obtain ⟨ba, t, q1, q2, q3⟩ := P.nm i hi
    exact ⟨ba, t, [], q1, q2, q3.sub subF⟩
  have gFsc : (frg g3 [h, sh, pa, lp, le, un2]) sc = some (.lst (cs.map V.int)) := frg_of gsc (by simp [(nsc P.H.h).symm, (nsc P.H.s).symm, (nsc P.H.p).symm, (nsc P.H.u).symm, sc_lp, sc_le])
  refine ⟨sc, cs.map V.int, rfl, .inl gsc, ?_⟩
  refine ⟨fun i s g => i ≤ cs.length ∧ ∃ gF S kn kd un hs ls evs y3 y6 y7 y8 y9 y10 y11 y12, s = [some (.ref a), some (.ref h), some (.ref kd), y3, some (.ref lp), some (.ref le), y6, y7, y8, y9, y10, y11, y12] ∧ Inv85 gF g h sh pa lp le un S ps hs ls evs kn kd i ∧ gF sc = some (.lst (cs.map V.int)),
    ⟨by omega, _, S, kn2, kd, un2, [], [], [], _, _, _, _, _, _, _, _, rfl, I0, gFsc⟩, ?_⟩
  rintro i s g ⟨hi, gF, S, kn, kd, un, hs, ls, evs, y3, y6, y7, y8, y9, y10, y11, y12, rfl, I, gsc⟩
  refine ⟨.inl (I.sub _ _ gsc), ?_⟩
  have elen : (Sq.enm sc (cs.map V.int)).len = cs.length := by simp [Sq.len]
  rw [elen]
  by_cases hlt : i < cs.length
  · rw [if_pos hlt]
    refine go ?_
    intro q x hx fq
    have e1 : (cs.map V.int)[i]? = some (V.int cs[i]) := by simp [hlt]
    rw [e1] at hx
    cases hx
    haveI : Fr g q := ⟨fq⟩
    repeat refine go ?_
    refine ⟨rfl, ?_⟩
    refine l_turn85 (I.mono (Sub.new fq)) (by omega) (by omega) fun gF' g' S' kn' kd' un' evs' y3 y8 y9 h1 h2 => ?_
    exact ⟨g', Sub.refl _, by omega, gF', S', kn', kd', un', _, _, evs', _, _, _, _, _, _, _, _, rfl, h2, h1 _ _ gsc⟩
  · rw [if_neg hlt]
    dsimp only
    exact l_after (ns := ns) I (by omega) ⟨rfl, rfl⟩ hl (by omega) fun g' => ⟨_, Sub.refl _, rfl⟩
end SW
end

section
set_option Elab.async false
set_option linter.all false
set_option maxRecDepth 100000
set_option maxHeartbeats 0
namespace SW
open PySem PySem.Spec PyProof.Rows L2
def klL (i : Addr × List Int) : Addr → List V → Prop := fun b ys => b = i.1 ∧ ys = i.2.map V.int
theorem factsL {P : Program} {w : World} {K : PySem.W.Frag} {h : Heap} {mg : Str → Option Value} {f : Addr} (X : K.In h) (G : h.Ns mainGlobals mg) (hfa : mg ("law" : Str) = some (.ref f)) (c : He.SaysD faL fnL K) :
    ∃ fd : FuncData, (∀ (s : Shared) (v : Value), BindsTo s fd ⟨[v], []⟩ [("script", v)]) ∧
      ∀ base : Heap, K.In base → base.Ns mainGlobals mg → FnOk P w K mg base CX0 (6 + 2 * 112) f fd ["script"] (fun vs H Q E => ∃ i : Addr × List Int, lowSp (prmOf tab K (klL i)) (Gam (klL i) bsP (defsOf ents) 112 F_law) vs H Q E) := by
  have hT : Top tab ents K mg := ⟨ents_ok, tab_ok, fun f hf => c.facts hf, fun e he => c.defs (List.mem_map_of_mem (f := Ent.D) he), fun x hx => He.glo_ok X G hx, fun x hx => He.free_ok X G hx, fun x i hx => He.int_ok X G hx, fun x z hx => He.str_ok X G hx⟩
  have hm : e_law ∈ ents := by simp [ents]
  obtain ⟨fd, F⟩ := hT.fn e_law hm
  have hg : (He.Fa.glo "law").ok K = true := c.facts (by simp [faL, faOf, tab])
  have e := hfa.symm.trans (He.glo_ok X G hg)
  have ef : f = He.fAd K e_law.at_ := by cases e; rfl
  subst ef
  have b := FunD.bindsA (ps := ["script"]) F (ents_ok e_law hm).bi
  refine ⟨fd, fun s v => b s [v] rfl, fun base _ _ => SW.FnOk.ex fun i => ?_⟩
  exact all_ok (prog := P) (w := w) (base := base) (kl := klL i) hT shD_ok 112 e_law hm fd F
theorem law_top {K : PySem.W.Frag} {H : Hp} {a : Addr} {ns : List Int} (hl : ns.length ≤ 63) (hO : Only H) (hS : SqL K H a (ns.map V.int)) :
    ∃ i : Addr × List Int, lowSp (prmOf tab K (klL i)) (Gam (klL i) bsP (defsOf ents) 112 F_law) [.ref a] H (fun v _ => v = .bl true) fun _ _ _ => False := by
  refine ⟨(a, ns), fun _ => none, fun v _ => v = .bl true, ⟨fun _ => none, fun b o hb => (nomatch hb), fun b c hb => (nomatch hb), ?_⟩, law_main a ns hl, fun v g' H' h _ => h⟩
  rintro b xs ⟨rfl, rfl⟩
  rcases hS with (h | ⟨o, h⟩) | h
  · rcases hO b with h2 | ⟨o, xs, h2⟩ <;> rw [h] at h2 <;> cases h2
  · exact .inl ⟨o, h⟩
  · exact .inr h
end SW
open PySem PySem.W PySem.Calls PyProof.Rows
theorem PySem.Challenge.cw_skeinwood_k85_whole_long_house_holds : PySem.Challenge.rw_skeinwood_k85_whole_long_house.Holds := by
  w_on; o_law
  refine HandSHeadRun.head_any (r := OpenLaw.row PySem.Challenge.rw_skeinwood_k85_whole_long_house) (q := view (OpenLaw.row PySem.Challenge.rw_skeinwood_k85_whole_long_house).prog [60]) (H := SW.hkL) (ob := SW.obL) (M := 12000) (loose := SW.looseL) (d := HandSHeadRun.topDef (OpenLaw.row PySem.Challenge.rw_skeinwood_k85_whole_long_house).prog 60) (kwd := []) SW.obL_eq
    (by kernel_rfl) (fun s => by kernel_rfl) SW.runL (by kernel_rfl) (by kernel_rfl) (by kernel_rfl) (by rfl) (by first | assumption | decide +kernel) (by decide +kernel) ⟨rfl, rfl, rfl, rfl, rfl, by decide +kernel⟩ ?hw ?hc
  case hw => w_witness2
  case hc =>
    refine L2.walk_ofE (l := PySem.Challenge.rw_skeinwood_k85_whole_long_house) (n := 63) (k := 6 + 2 * 112) (x := "script") (CX := L2.CX0) rfl (by decide) (by kernel_rfl) ⟨rfl, by decide, by decide⟩ ?F (fun _ _ _ _ z => z)
    intro w mg fa h Y G hmg0
    obtain ⟨K, KX, c⟩ := Y
    have hmg : mg ("law" : PySem.Str) = some (.ref fa) := by
      have e : (HandSHeadRun.topDef (OpenLaw.row PySem.Challenge.rw_skeinwood_k85_whole_long_house).prog 60).name = ("law" : PySem.Str) := by kernel_rfl
      rw [← e]
      exact hmg0
    obtain ⟨fd, hb, hF⟩ := SW.factsL (P := (PySem.Challenge.rw_skeinwood_k85_whole_long_house).prog) (w := w) KX G hmg c
    exact ⟨K, fd, _, KX, hb, fun H a ns hl hO hS => SW.law_top hl hO hS, hF⟩
end
