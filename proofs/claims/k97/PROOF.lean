import PyProof.Rows.All
import Wide.All
import OpenK.AllK
import Wide.FinOn
import HandS.ForMost
import HandS.Wide
import HandS.Flow
import HandS.Defaults
import HandS.Head0
import HandS.Head1
import HandS.Head2
import HandS.HeadEnd
import HandS.HeadHook1
import HandS.HeadHook2
import PyProof.Draws
import KE.GoesMore
import PyProof.EnumMake
import HandS.StrMore
import HandS.Replace
import HandS.More
import HandS.TupLe
import HandS.IsInst
import HandS.ListEq
import PyProof.EqAt
import PyProof.EqKinds
import PyProof.TupleCall
import PyProof.ZipIter
import PyProof.ListNew
import PyProof.CollectWalk
import KE.KDictZip
import HandS.DictTup
import HandS.HeadHook4
import PySem.Challenge.RW_skeinwood_k97_whole_one_text_told_in_all

section
set_option Elab.async false
set_option linter.all false
set_option maxRecDepth 100000
set_option maxHeartbeats 4000000
/-! enumerate(str) -/
namespace L2
open PySem PySem.Spec PyProof.Rows
/-- the signs of a text, each in a new pair -/
def Ites (x : Str) : It :=
  ⟨fun i _ => i < x.cps.size, fun i H v H' => ∃ T c, v = .ref T ∧ H T = none ∧ H' = upd H T (.tup [.int (i : Nat), .str ⟨#[c]⟩]) ∧ x.cps[i]? = some c, fun i _ => x.cps.size ≤ i⟩
theorem turn_enumS {P : Program} {w : World} {K : PySem.W.Frag} {elts : List Expr} {kk : Nat} {tpos : Pos} (x : Str) (t : Tok) (e it : Addr) :
    Turn P w K (.Tuple elts kk tpos) (Ites x) [e, it] e (fun i h => (∃ old, IsEnum h e it ((i : Nat) : Int) old) ∧ h.IsStrIter it (strIterType x) x t i ∧ e ≠ it) where
  mem := by simp
  obj := fun i h st b hb => by
    obtain ⟨⟨old, he⟩, ⟨o, ho, hc, hd⟩, _⟩ := st
    have e' : b = e ∨ b = it := by simpa using hb
    rcases e' with z | z
    · rw [z]; exact ⟨_, he, fun v q => nomatch q⟩
    · rw [z]; exact ⟨o, ho, fun v q => by rw [hd] at q; cases q⟩
  keep := fun i h h' st k => let ⟨⟨old, he⟩, ⟨o, ho, r⟩, hne⟩ := st; ⟨⟨old, k e (by simp) _ he⟩, ⟨o, k it (by simp) o ho, r⟩, hne⟩
  item := by
    intro X hP hw hK hc i pins s σ H E I hf st hg
    subst hP hw hK
    obtain ⟨⟨old, he⟩, hit, hne⟩ := st
    have hel : e < s.heap.objs.size := Heap.lt_size he
    have hil : it < s.heap.objs.size := by obtain ⟨_, q, _⟩ := hit; exact Heap.lt_size q
    have D := Draws.text (prog := X.prog) (w := X.w) (A := X.A.in1) (I.ok.hd hc) it x t
    refine wpAny_pyNext_enum_itemD D he hit hg hne (by simpa using hne) fun v h' tk hv ho hit' hT hsz hk => ?_
    obtain ⟨c, u, hcx, rfl⟩ := hv
    refine ⟨_, rfl, wpAny_letOwnedTupleGo_enum (s := { s with heap := h', toks := tk + 1 }) ho fun h'' he' sb => ?_⟩
    have hT2 : h''.get? s.heap.objs.size = some { cls := .type "tuple", data := .seq #[.int i tk, .str ⟨#[c]⟩ u] } := (sb.2 _ (Nat.ne_of_gt hel)).trans hT
    have new : ObjOk X.prog X.w (upd H s.heap.objs.size (.tup [.int (i : Nat), .str ⟨#[c]⟩])) h'' s.heap.objs.size (.tup [.int (i : Nat), .str ⟨#[c]⟩]) :=
      ⟨by show 2 ≤ sizeLine; decide, [.int i tk, .str ⟨#[c]⟩ u], .cons ⟨_, rfl⟩ (.cons ⟨_, rfl⟩ .nil), ⟨_, hT2, rfl, _, rfl⟩⟩
    have I1 : Inv X pins σ (upd H s.heap.objs.size (.tup [.int (i : Nat), .str ⟨#[c]⟩])) { s with heap := h'', toks := tk + 1 } :=
      I.turnedNew (ch := [e, it]) (fun b ob hb q => (sb.2 b (fun z => hb (by simp [z]))).trans (hk b ob (fun z => hb (by simp [z])) (fun z => hb (by simp [z])) q)) hf (Nat.le_refl _) new
    refine ⟨.ref s.heap.objs.size, _, I1, rfl, ⟨_, c, rfl, I.hok.fresh (Nat.le_refl _), rfl, hcx⟩, ⟨⟨.str ⟨#[c]⟩ u, ?_⟩, ?_, hne⟩, fun b hb => ?_⟩
    · have e1 : ((i + 1 : Nat) : Int) = (i : Int) + 1 := by omega
      rw [e1]; exact he'
    · obtain ⟨o, ho', r⟩ := hit'
      exact ⟨o, (sb.2 it (Ne.symm hne)).trans ho', r⟩
    · have hb' : b < s.heap.objs.size := by
        have e' : b = e ∨ b = it := by simpa using hb
        rcases e' with z | z
        · rw [z]; exact hel
        · rw [z]; exact hil
      rw [upd_ne (Nat.ne_of_lt hb')]
      exact (hf b hb).1
  done := by
    intro X hP hw hK hc i pins s σ H E I hf st hg
    subst hP hw hK
    obtain ⟨⟨old, he⟩, hit, hne⟩ := st
    obtain ⟨f0, f1, f2, f3, f4, f5⟩ := hf it (by simp)
    have hx : x.cps[i]? = none := Array.getElem?_eq_none hg
    have hh : X.A.in1.handled = none := I.ok.hd hc
    have hT : s.TypeIs (.ref e) "enumerate" := ⟨_, he, rfl⟩
    unfold pyNext
    refine wpAny_bind (wpAny_attempt (wpAny_callSpecial?_slot (name := Str.ofString "__next__") hT F.slot_enumerate_next
      (wpAny_call_entry F.slot_enumerate_next hT F.entry_enumerate_next ?_ (F.args_enumerate_next_1 _))))
    show wpAny _ _ (field (.ref e) 2 >>= _) _ _ _
    refine wpAny_bind (wpAny_field he rfl (x := .ref it) rfl ?_)
    cases ha : x.cps.all (· < 128)
    · have st' : s.heap.IsStrIter it "str_iterator" x t i := by simpa [strIterType, ha] using hit
      exact wpAny_bind (wpAny_nextOf_wide_end hh st' hx fun h' x' he' hx' => by
        obtain ⟨o, ho, hc⟩ := hx'
        refine wpAny_bind (wpAny_isInstance (T := "StopIteration") (b := true) ⟨o, ho, hc⟩ isSubtype_stop ?_)
        exact wpAny_pure ⟨rfl, I.turned (t' := s.toks) (fun b o hb q => he' b o hb q) f0 f1 f3 f4 f5⟩)
    · have st' : s.heap.IsStrIter it "str_ascii_iterator" x t i := by simpa [strIterType, ha] using hit
      exact wpAny_bind (wpAny_nextOf_ascii_end hh st' hx fun h' x' he' hx' => by
        obtain ⟨o, ho, hc⟩ := hx'
        refine wpAny_bind (wpAny_isInstance (T := "StopIteration") (b := true) ⟨o, ho, hc⟩ isSubtype_stop ?_)
        exact wpAny_pure ⟨rfl, I.turned (t' := s.toks) (fun b o hb q => he' b o hb q) f0 f1 f3 f4 f5⟩)
  self := fun A i s Q E st h => let ⟨⟨_, he⟩, _⟩ := st; wpAny_pyIter_enum he h
def iEnumB (K : PySem.W.Frag) (ta : TA) : TI := fun σ H R => ta σ H fun vs H1 => (∃ a xs, vs = [.ref a] ∧ SqL K H1 a xs ∧ R (Ite K a) H1) ∨ ∃ x, vs = [.str x] ∧ R (Ites x) H1
theorem pi_enumB {X : Cx} {e : Expr} {ta : TA} {p pos tpos : Pos} {elts : List Expr} {kk : Nat} (hg : Gl X "enumerate") (hm : X.mg "enumerate" = none) (ha : PA X [e] ta) (hs : starEach [e] X.env = [(false, eval e X.env)] := by rfl) :
    PI X (.Tuple elts kk tpos) (.Call (.Name "enumerate" p) [e] [] pos) (iEnumB X.K ta) := by
  refine ⟨fun pins s σ H R I h => ?_⟩
  refine Call_ (ld_blt I hg hm boot_enumerate (PyProof.Rows.callWith_type1 (thn (ha.run pos pins s σ H _ I h) fun us s1 ⟨vs, H1, I1, r1, q1⟩ => ?_) hs rfl))
  have ge : ∀ b : Addr, b ∈ [s1.heap.objs.size + 1, s1.heap.objs.size] → s1.heap.objs.size ≤ b := fun b hb => by
    have e' : b = s1.heap.objs.size + 1 ∨ b = s1.heap.objs.size := by simpa using hb
    rcases e' with z | z
    · rw [z]; exact Nat.le_add_right _ _
    · rw [z]; exact Nat.le_refl _
  rcases q1 with ⟨a, xs, ex, hq, q⟩ | ⟨x, ex, q⟩
  · subst ex
    cases r1 with
    | cons r rr =>
      cases rr
      cases r
      obtain ⟨its, rv, p', hz⟩ := I1.list hq
      refine call_enumerate_list p'.isList fun h' he hit hsz hk => wpAny_pyIter_enum he ?_
      have I2 : Inv X pins σ H1 { s1 with heap := h' } := I1.kept (t' := s1.toks) hk
      exact ⟨s1.heap.objs.size + 1, [s1.heap.objs.size + 1, s1.heap.objs.size], _, _, H1, rfl, I2, turn_enum a (s1.heap.objs.size + 1) s1.heap.objs.size, ⟨⟨.none, he⟩, hit, Nat.succ_ne_self _⟩, fun b hb => I1.fpOk (ge b hb) (I1.hok.fresh (ge b hb)), q⟩
  · subst ex
    cases r1 with
    | cons r rr =>
      cases rr
      obtain ⟨t, rfl⟩ := r
      refine call_enumerate_str fun h' he hit hsz hk => wpAny_pyIter_enum he ?_
      have I2 : Inv X pins σ H1 { s1 with heap := h' } := I1.kept (t' := s1.toks) hk
      exact ⟨s1.heap.objs.size + 1, [s1.heap.objs.size + 1, s1.heap.objs.size], _, _, H1, rfl, I2, turn_enumS x t (s1.heap.objs.size + 1) s1.heap.objs.size, ⟨⟨.none, he⟩, hit, Nat.succ_ne_self _⟩, fun b hb => I1.fpOk (ge b hb) (I1.hok.fresh (ge b hb)), q⟩
end L2
end

section
set_option Elab.async false
set_option linter.all false
set_option maxRecDepth 100000
/-! The abstract heap and the readings (no model in sight). -/
namespace SW
open PySem L2

/-! ### the abstract heap -/
/-- what a shelf keeps of a piece -/
structure PRec where
  pc : Sum Str (Nat × Nat)
  sg : Nat
  en : Nat
  lv : Nat
  ht : Nat
  fi : Nat
  la : Nat
abbrev Sh := List PRec
inductive O where
  | lst (xs : List V)
  | tup (xs : List V)
  | dK (kvs : List (Key × V))
  | dT (kvs : List (List Key × V))
  | ins (c : Nat) (fs : List (Nat × V))
  | shf (S : Sh)
abbrev G := Addr → Option O
def gu (g : G) (a : Addr) (o : O) : G := fun b => if b = a then some o else g b
def Sub (g' g : G) : Prop := ∀ a o, g' a = some o → g a = some o
abbrev VG := V → G → Prop
abbrev XG := Nat → G → Prop
abbrev SpG := List V → G → VG → XG → Prop
structure Cal where
  kl : Addr → List V → Prop
  fn : Nat → SpG
  er : Nat → St → G → Prop
abbrev T := Cal → St → G → VG → Prop
abbrev TB := Cal → St → G → (Bool → G → Prop) → Prop
abbrev TLs := Cal → St → G → (List V → G → Prop) → Prop
structure En where
  nx : St → G → Prop
  rt : VG
  bk : St → G → Prop := fun _ _ => False
  ct : St → G → Prop := fun _ _ => False
abbrev TSt := Cal → En → St → G → Prop
/-- a target -/
abbrev TTg := Cal → V → St → G → (St → G → Prop) → Prop

def putN (f : Nat) (v : V) : List (Nat × V) → List (Nat × V)
  | [] => [(f, v)]
  | (h, x) :: r => if h = f then (h, v) :: r else (h, x) :: putN f v r

/-- the attributes of the program's classes (0 Shelf, 1 Front, 2 Reader, 3 Finder, 4 House, 5 Desk), by numbers -/
def atOf : Nat → List Nat
  | 0 => [0, 1, 2, 3, 4, 5, 6, 7]
  | 1 => [8, 9, 10]
  | 2 => [11, 12, 13]
  | 3 => [11, 14, 15, 16]
  | 4 => [17, 15, 18, 19]
  | 5 => [20]
  | _ => []
def anL : List Str := ["pieces", "numbers", "told_signs", "told_ends", "told_leaves", "told_heights", "firsts", "lasts", "shelf_here", "rest", "waiting", "wood", "signs_left", "pieces_left", "word", "known", "ends_known", "own", "past", "undone", "home"]
def anOf (i : Nat) : Str := anL.getD i ""

/-- a list that may be read -/
def Ls (kl : Addr → List V → Prop) (g : G) (a : Addr) (xs : List V) : Prop := g a = some (.lst xs) ∨ kl a xs

mutual
inductive Dg (kl : Addr → List V → Prop) (g : G) : V → PyData → Prop
  | non : Dg kl g .non .none
  | bl (b : Bool) : Dg kl g (.bl b) (.bool b)
  | int (i : Int) : Dg kl g (.int i) (.int i)
  | str (x : Str) : Dg kl g (.str x) (.str x)
  | lst {a : Addr} {xs : List V} {ds : List PyData} : Ls kl g a xs → DgAll kl g xs ds → Dg kl g (.ref a) (.list ds)
  | tup {a : Addr} {xs : List V} {ds : List PyData} : g a = some (.tup xs) → DgAll kl g xs ds → Dg kl g (.ref a) (.tuple ds)
inductive DgAll (kl : Addr → List V → Prop) (g : G) : List V → List PyData → Prop
  | nil : DgAll kl g [] []
  | cons {v : V} {vs : List V} {d : PyData} {ds : List PyData} : Dg kl g v d → DgAll kl g vs ds → DgAll kl g (v :: vs) (d :: ds)
end

/-! ### operations on values -/
def binV (kl : Addr → List V → Prop) (op : Operator) (x y : V) (g : G) (Q : VG) : Prop :=
  match op, x, y with
  | .Add, .int i, .int j => Q (.int (i + j)) g
  | .Add, .str a, .str b => a.length + b.length ≤ sizeLine ∧ Q (.str (a ++ b)) g
  | .Add, .ref a, .ref b => ∃ xs ys, Ls kl g a xs ∧ Ls kl g b ys ∧ xs.length + ys.length ≤ sizeLine ∧ ∀ p, g p = none → Q (.ref p) (gu g p (.lst (xs ++ ys)))
  | .Sub, .int i, .int j => Q (.int (i - j)) g
  | .Mult, .int i, .int j => CMulW i j ∧ Q (.int (i * j)) g
  | .Mult, .str a, .int k => -(2 ^ 63) ≤ k ∧ k < 2 ^ 63 ∧ a.length * k.toNat ≤ sizeLine ∧ Q (.str ⟨(List.replicate k.toNat a.cps.toList).flatten.toArray⟩) g
  | .Mult, .ref a, .int k => ∃ xs, g a = some (.lst xs) ∧ -(2 ^ 63) ≤ k ∧ k < 2 ^ 63 ∧ xs.length * k.toNat ≤ sizeLine ∧ ∀ p, g p = none → Q (.ref p) (gu g p (.lst (List.replicate k.toNat xs).flatten))
  | .FloorDiv, .int i, .int j => CDivW i j ∧ Q (.int (i / j)) g
  | .Mod, .int i, .int j => 0 < j ∧ Q (.int (i % j)) g
  | .Pow, .int i, .int j => CPow i j ∧ Q (.int (i ^ j.toNat)) g
  | _, _, _ => False

/-- the answer of == on scalars -/
def eqV' (kl : Addr → List V → Prop) (x y : V) (g : G) (Q : Bool → G → Prop) : Prop :=
  match x, y with
  | .ref _, .ref _ => ∃ d e, Dg kl g x d ∧ Dg kl g y e ∧ SeqAt.shaped d = true ∧ SeqAt.shaped e = true ∧ Q (PyData.eqv d e) g
  | _, _ => scal x y = true ∧ Q (decide (x = y)) g

def keyOf : V → Option Key
  | .int i => some (.inl i)
  | .str x => some (.inr x)
  | _ => none

/-- what a dict holds at a key -/
def dGet (g : G) (a : Addr) (y : V) (r : Option V) : Prop :=
  (∃ kvs k, g a = some (.dK kvs) ∧ y = kV k ∧ r = valV kvs k) ∨ ∃ kvs k b, g a = some (.dT kvs) ∧ y = .ref b ∧ g b = some (.tup (k.map kV)) ∧ r = valV kvs k
def dPut (g : G) (a : Addr) (y v : V) (g' : G) : Prop :=
  (∃ kvs k, g a = some (.dK kvs) ∧ y = kV k ∧ kvs.length < sizeLine ∧ g' = gu g a (.dK (putK kvs k v))) ∨
  ∃ kvs k b, g a = some (.dT kvs) ∧ y = .ref b ∧ g b = some (.tup (k.map kV)) ∧ kvs.length < sizeLine ∧ g' = gu g a (.dT (putK kvs k v))

def inV (kl : Addr → List V → Prop) (x y : V) (g : G) (Q : Bool → G → Prop) : Prop :=
  match y with
  | .str z => ∃ c : Nat, x = .str ⟨#[c]⟩ ∧ Q (decide (c ∈ z.cps.toList)) g
  | .ref a => (∃ o, dGet g a x o ∧ Q o.isSome g) ∨ ∃ xs, Ls kl g a xs ∧ flatV x = true ∧ xs.all flatV = true ∧ Q (L2.inV x xs) g
  | _ => False

def cmpV (kl : Addr → List V → Prop) (op : CmpOp) (x y : V) (g : G) (Q : Bool → G → Prop) : Prop :=
  match op with
  | .Eq => eqV' kl x y g Q ∨ ∃ a b xs ys, x = .ref a ∧ y = .ref b ∧ g a = some (.lst xs) ∧ g b = some (.lst ys) ∧ xs.length ≠ ys.length ∧ Q false g
  | .NotEq => eqV' kl x y g fun b g' => Q (!b) g'
  | .Lt => ∃ i j, x = .int i ∧ y = .int j ∧ Q (decide (i < j)) g
  | .LtE => match x, y with
    | .int i, .int j => Q (decide (i ≤ j)) g
    | .str i, .str j => Q (!decide (j.cps.toList < i.cps.toList)) g
    | _, _ => False
  | .Gt => ∃ i j, x = .int i ∧ y = .int j ∧ Q (decide (j < i)) g
  | .GtE => ∃ i j, x = .int i ∧ y = .int j ∧ Q (decide (j ≤ i)) g
  | .In => inV kl x y g Q
  | .NotIn => inV kl x y g fun b g' => Q (!b) g'
  | .Is => (y = .non ∧ Q (decide (x = .non)) g) ∨ ∃ a b, x = .bl a ∧ y = .bl b ∧ Q (decide (a = b)) g
  | .IsNot => (y = .non ∧ Q (!decide (x = .non)) g) ∨ ∃ a b, x = .bl a ∧ y = .bl b ∧ Q (!decide (a = b)) g

/-- o[i] -/
def ixV (kl : Addr → List V → Prop) (x y : V) (g : G) (Q : VG) : Prop :=
  match x with
  | .str z => ∃ i c, y = .int i ∧ z.length ≤ sizeLine ∧ atI z.cps.toList i = some c ∧ Q (.str ⟨#[c]⟩) g
  | .ref a => (∃ xs i v, y = .int i ∧ (Ls kl g a xs ∨ g a = some (.tup xs)) ∧ atI xs i = some v ∧ Q v g) ∨ ∃ v, dGet g a y (some v) ∧ Q v g
  | _ => False
/-- o[i:j] -/
def slV (kl : Addr → List V → Prop) (x : V) (lo hi : Option Int) (g : G) (Q : VG) : Prop :=
  match x with
  | .str z => z.length ≤ sizeLine ∧ Q (.str (cutS z lo hi)) g
  | .ref a => ∃ xs, Ls kl g a xs ∧ ∀ p, g p = none → Q (.ref p) (gu g p (.lst (cutV xs lo hi)))
  | _ => False

/-- the truth of a value -/
def truV (kl : Addr → List V → Prop) (x : V) (g : G) (Q : Bool → G → Prop) : Prop :=
  match x with
  | .bl b => Q b g
  | .str y => y.length ≤ sizeLine ∧ Q ((y.length : Int) != 0) g
  | _ => False

/-- built-in functions -/
inductive Bi where
  | len | max | min | abs | sum | all | int | str | list | dict | isint | isstr | isbool | istuple | islist | sorted
  deriving DecidableEq
def biV (kl : Addr → List V → Prop) (f : Bi) (xs : List V) (g : G) (Q : VG) : Prop :=
  match f with
  | .len => match xs with
    | [.str y] => y.length ≤ sizeLine ∧ Q (.int y.length) g
    | [.ref a] => (∃ ys, (Ls kl g a ys ∨ g a = some (.tup ys)) ∧ Q (.int ys.length) g) ∨ ∃ kvs, g a = some (.dK kvs) ∧ Q (.int kvs.length) g
    | _ => False
  | .max => match xs with
    | [.int i, .int j] => Q (.int (if j > i then j else i)) g
    | [.ref a] => ∃ ns : List Int, Ls kl g a (ns.map V.int) ∧ 0 < ns.length ∧ ∀ m, m ∈ ns → (∀ y, y ∈ ns → y ≤ m) → Q (.int m) g
    | _ => False
  | .min => match xs with
    | [.int i, .int j] => Q (.int (if j < i then j else i)) g
    | [.ref a] => ∃ ns : List Int, Ls kl g a (ns.map V.int) ∧ 0 < ns.length ∧ ∀ m, m ∈ ns → (∀ y, y ∈ ns → m ≤ y) → Q (.int m) g
    | _ => False
  | .abs => match xs with
    | [.int i] => Q (.int (if i < 0 then -i else i)) g
    | _ => False
  | .sum => ∃ (a : Addr) (ns : List Int), xs = [.ref a] ∧ Ls kl g a (ns.map V.int) ∧ Q (.int ns.sum) g
  | .all => ∃ (a : Addr) (bs : List Bool), xs = [.ref a] ∧ Ls kl g a (bs.map V.bl) ∧ Q (.bl (bs.all id)) g
  | .int => match xs with
    | [.bl k] => Q (.int (if k then 1 else 0)) g
    | [.str a] => ∃ n, PySem.intText? a = some n ∧ a.length ≤ 640 ∧ Q (.int n) g
    | _ => False
  | .str => match xs with
    | [.int i] => i.natAbs.log2 < 1920 ∧ Q (.str (toString i)) g
    | _ => False
  | .list => ∃ a ys, xs = [.ref a] ∧ (Ls kl g a ys ∨ g a = some (.tup ys)) ∧ ∀ p, g p = none → Q (.ref p) (gu g p (.lst ys))
  | .dict => ∃ a kvs, xs = [.ref a] ∧ g a = some (.dK kvs) ∧ ∀ p, g p = none → Q (.ref p) (gu g p (.dK kvs))
  | .isint => match xs with
    | [.int _] | [.bl _] => Q (.bl true) g
    | [.str _] | [.non] => Q (.bl false) g
    | _ => False
  | .isbool => match xs with
    | [.bl _] => Q (.bl true) g
    | [.int _] | [.str _] | [.non] => Q (.bl false) g
    | _ => False
  | .isstr => match xs with
    | [.str _] => Q (.bl true) g
    | [.int _] | [.bl _] | [.non] => Q (.bl false) g
    | _ => False
  | .istuple => match xs with
    | [.ref a] => ∃ ys, g a = some (.tup ys) ∧ Q (.bl true) g
    | _ => False
  | .islist => match xs with
    | [.ref a] => ∃ ys, g a = some (.lst ys) ∧ Q (.bl true) g
    | [.non] => Q (.bl false) g
    | _ => False
  | .sorted => False

/-- methods of built-in types -/
inductive Bm where
  | append | extend | pop | popK | insert | reverse | get | count | join | replace | partition | split | rfind
  deriving DecidableEq
def bmOk (m : Bm) (x : V) (g : G) : Prop :=
  match m, x with
  | .append, .ref a | .extend, .ref a | .insert, .ref a | .reverse, .ref a => ∃ xs, g a = some (.lst xs)
  | .pop, .ref a => ∃ xs, g a = some (.lst xs)
  | .popK, .ref a | .get, .ref a => ∃ kvs, g a = some (.dK kvs)
  | .count, .str _ | .join, .str _ | .replace, .str _ | .partition, .str _ | .split, .str _ | .rfind, .str _ => True
  | _, _ => False
def bmV (kl : Addr → List V → Prop) (m : Bm) (x : V) (vs : List V) (g : G) (Q : VG) : Prop :=
  match m with
  | .append => ∃ a xs y, x = .ref a ∧ vs = [y] ∧ g a = some (.lst xs) ∧ xs.length < sizeLine ∧ Q .non (gu g a (.lst (xs ++ [y])))
  | .extend => ∃ a b xs zs, x = .ref a ∧ vs = [.ref b] ∧ g a = some (.lst xs) ∧ g b = some (.lst zs) ∧ xs.length + zs.length ≤ sizeLine ∧ Q .non (gu g a (.lst (xs ++ zs)))
  | .pop => match vs with
    | [] => ∃ a xs y, x = .ref a ∧ g a = some (.lst xs) ∧ xs[xs.length - 1]? = some y ∧ Q y (gu g a (.lst xs.dropLast))
    | [k] => ∃ a xs i j y, x = .ref a ∧ k = .int i ∧ g a = some (.lst xs) ∧ -(2 ^ 63) ≤ i ∧ i < 2 ^ 63 ∧ seqIndex? i xs.length = some j ∧ xs[j]? = some y ∧ Q y (gu g a (.lst (xs.eraseIdx j)))
    | _ => False
  | .popK => ∃ a kvs q v, x = .ref a ∧ vs = [kV q] ∧ g a = some (.dK kvs) ∧ valV kvs q = some v ∧ Q v (gu g a (.dK (dropK kvs q)))
  | .reverse => ∃ a xs, x = .ref a ∧ vs = [] ∧ g a = some (.lst xs) ∧ Q .non (gu g a (.lst xs.reverse))
  | .count => ∃ a b, x = .str a ∧ vs = [.str b] ∧ Q (.int (Txt.count a b)) g
  | .join => ∃ a p, ∃ ys : List Str, x = .str a ∧ vs = [.ref p] ∧ Ls kl g p (ys.map V.str) ∧ (ys.map (·.length)).sum + ys.length * a.length ≤ 16777216 ∧ Q (.str (Txt.join a ys)) g
  | .partition => ∃ a b, x = .str a ∧ vs = [.str b] ∧ (b.length == 0) = false ∧ a.length ≤ sizeLine ∧
      ∀ p, g p = none → Q (.ref p) (gu g p (.tup [.str (Txt.partition a b).1, .str (Txt.partition a b).2.1, .str (Txt.partition a b).2.2]))
  | .split => ∃ a b, x = .str a ∧ vs = [.str b] ∧ (b.length == 0) = false ∧ a.length + 2 ≤ sizeLine ∧ ∀ p, g p = none → Q (.ref p) (gu g p (.lst ((Txt.split a b).map V.str)))
  | .insert => ∃ a xs i y, x = .ref a ∧ vs = [.int i, y] ∧ g a = some (.lst xs) ∧ xs.length < sizeLine ∧ 0 ≤ i ∧ i < 2 ^ 63 ∧ Q .non (gu g a (.lst (xs.take i.toNat ++ [y] ++ xs.drop i.toNat)))
  | .rfind => ∃ a b, x = .str a ∧ vs = [.str b] ∧ Q (.int (Txt.rfind a b)) g
  | _ => False

/-! ### expressions -/
def eV (i : Nat) : T := fun _ σ g Q => ∃ v, σ[i]? = some (some v) ∧ Q v g
def eC (v : V) : T := fun _ _ g Q => Q v g
def eBin (op : Operator) (a b : T) : T := fun c σ g Q => a c σ g fun x g1 => b c σ g1 fun y g2 => binV c.kl op x y g2 Q
def eNeg (a : T) : T := fun c σ g Q => a c σ g fun x g1 => ∃ i, x = .int i ∧ Q (.int (-i)) g1
def eCmp (op : CmpOp) (a b : T) : T := fun c σ g Q => a c σ g fun x g1 => b c σ g1 fun y g2 => cmpV c.kl op x y g2 fun k g3 => Q (.bl k) g3
/-- the rest of a chain: x is the left value -/
def chn : List (CmpOp × T) → V → Cal → St → G → VG → Prop
  | [], _, _, _, g, Q => Q (.bl true) g
  | [(op, b)], x, c, σ, g, Q => b c σ g fun y g2 => cmpV c.kl op x y g2 fun k g3 => Q (.bl k) g3
  | (op, b) :: r, x, c, σ, g, Q => b c σ g fun y g2 => cmpV c.kl op x y g2 fun k g3 => if k = true then chn r y c σ g3 Q else Q (.bl false) g3
def eChn (a : T) (r : List (CmpOp × T)) : T := fun c σ g Q => a c σ g fun x g1 => chn r x c σ g1 Q
def eAnd (a b : T) : T := fun c σ g Q => a c σ g fun x g1 => truV c.kl x g1 fun k g2 => if k = true then b c σ g2 Q else Q x g2
def eOr (a b : T) : T := fun c σ g Q => a c σ g fun x g1 => truV c.kl x g1 fun k g2 => if k = true then Q x g2 else b c σ g2 Q
def eNot (a : T) : T := fun c σ g Q => a c σ g fun x g1 => truV c.kl x g1 fun k g2 => Q (.bl (!k)) g2
def lNil : TLs := fun _ _ g Q => Q [] g
def lCons (a : T) (r : TLs) : TLs := fun c σ g Q => a c σ g fun x g1 => r c σ g1 fun xs g2 => Q (x :: xs) g2
def eTup (t : TLs) : T := fun c σ g Q => t c σ g fun xs g1 => xs.length ≤ sizeLine ∧ ∀ p, g1 p = none → Q (.ref p) (gu g1 p (.tup xs))
def eLst (t : TLs) : T := fun c σ g Q => t c σ g fun xs g1 => xs.length ≤ sizeLine ∧ ∀ p, g1 p = none → Q (.ref p) (gu g1 p (.lst xs))
def eDict0 : T := fun _ _ g Q => (∀ p, g p = none → Q (.ref p) (gu g p (.dK []))) ∨ (∀ p, g p = none → Q (.ref p) (gu g p (.dT [])))
def eIx (a b : T) : T := fun c σ g Q => a c σ g fun x g1 => b c σ g1 fun y g2 => ixV c.kl x y g2 Q
def oNone : Cal → St → G → (Option Int → G → Prop) → Prop := fun _ _ g Q => Q none g
def oSome (a : T) : Cal → St → G → (Option Int → G → Prop) → Prop := fun c σ g Q => a c σ g fun x g1 => ∃ i, x = .int i ∧ Q (some i) g1
def eSl (a : T) (l h : Cal → St → G → (Option Int → G → Prop) → Prop) : T := fun c σ g Q => a c σ g fun x g1 => l c σ g1 fun lo g2 => h c σ g2 fun hi g3 => slV c.kl x lo hi g3 Q
def eAt (a : T) (f : Nat) : T := fun c σ g Q => a c σ g fun x g1 => ∃ p cn fs v, x = .ref p ∧ g1 p = some (.ins cn fs) ∧ fs.lookup f = some v ∧ Q v g1
def eBi (f : Bi) (t : TLs) : T := fun c σ g Q => t c σ g fun xs g1 => biV c.kl f xs g1 Q
def eBm (m : Bm) (a : T) (t : TLs) : T := fun c σ g Q => a c σ g fun x g1 => bmOk m x g1 ∧ t c σ g1 fun vs g2 => bmV c.kl m x vs g2 Q
def eFn (f : Nat) (t : TLs) : T := fun c σ g Q => t c σ g fun vs g1 => c.fn f vs g1 Q fun e g2 => c.er e σ g2
/-- a new instance -/
def eMk (cn f : Nat) (t : TLs) : T := fun c σ g Q => t c σ g fun vs g1 => ∀ p, g1 p = none → c.fn f (.ref p :: vs) (gu g1 p (.ins cn [])) (fun v g2 => v = .non ∧ Q (.ref p) g2) fun e g2 => c.er e σ g2
/-- the pairs of a display -/
def dPairs : List (T × T) → Cal → St → G → (List (V × V) → G → Prop) → Prop
  | [], _, _, g, Q => Q [] g
  | (tk, tv) :: r, c, σ, g, Q => tk c σ g fun x g1 => tv c σ g1 fun y g2 => dPairs r c σ g2 fun ps g3 => Q ((x, y) :: ps) g3
/-- {k: v, ..}; the dict stands empty while the pairs are made -/
def eDisp (trs : List (T × T)) : T := fun c σ g Q => ∀ p, g p = none → dPairs trs c σ (gu g p (.dK [])) fun ps g2 => g2 p = some (.dK []) ∧ ∃ kvs : List (Key × V), ps = kvs.map (fun kv => (kV kv.1, kv.2)) ∧ kvs.length ≤ 15 ∧ Q (.ref p) (gu g2 p (.dK (mergeK [] kvs)))
/-- the class of what a method is called of -/
def clsOf (g : G) : V → Option Nat
  | .ref a => match g a with
    | some (.ins cn _) => some cn
    | some (.shf _) => some 0
    | _ => none
  | _ => none
/-- o.m(..): ms tells the def by the class -/
def eMt (ms : List (Nat × Nat)) (a : T) (t : TLs) : T := fun c σ g Q => a c σ g fun x g1 => ∃ cn f, clsOf g1 x = some cn ∧ ms.lookup cn = some f ∧ t c σ g1 fun vs g2 => c.fn f (x :: vs) g2 Q fun e g3 => c.er e σ g3

/-- new tuples, one for each pair -/
def zipNew : List (V × V) → G → (List Addr → G → Prop) → Prop
  | [], g, Q => Q [] g
  | p :: r, g, Q => ∀ a, g a = none → zipNew r (gu g a (.tup [p.1, p.2])) fun as g' => Q (a :: as) g'
/-- list(zip(a, b)) -/
def eLzip (a b : T) : T := fun c σ g Q => a c σ g fun x g1 => b c σ g1 fun y g2 => ∃ p q xs ys, x = .ref p ∧ y = .ref q ∧ Ls c.kl g2 p xs ∧ Ls c.kl g2 q ys ∧
  zipNew (xs.zip ys) g2 fun as g3 => ∀ D, g3 D = none → Q (.ref D) (gu g3 D (.lst (as.map V.ref)))

/-! ### tests -/
def tVal (a : T) : TB := fun c σ g Q => a c σ g fun x g1 => truV c.kl x g1 Q
def tAnd (a b : TB) : TB := fun c σ g Q => a c σ g fun k g1 => if k = true then b c σ g1 Q else Q false g1
def tOr (a b : TB) : TB := fun c σ g Q => a c σ g fun k g1 => if k = true then Q true g1 else b c σ g1 Q
def tNot (a : TB) : TB := fun c σ g Q => a c σ g fun k g1 => Q (!k) g1
def tBl (a : T) : TB := fun c σ g Q => a c σ g fun x g1 => ∃ k, x = .bl k ∧ Q k g1
def tYes : TB := fun _ _ g Q => Q true g

/-! ### what is walked -/
inductive Sq where
  | lst (a : Addr) (xs : List V)
  | tup (a : Addr) (xs : List V)
  | rng (lo st : Int) (n : Nat)
  | str (x : Str)
  | enm (a : Addr) (xs : List V)
  | enmS (x : Str)
  | zip (a b : Addr) (xs ys : List V)
def Sq.len : Sq → Nat
  | .lst _ xs | .tup _ xs | .enm _ xs => xs.length
  | .rng _ _ n => n
  | .str x | .enmS x => x.cps.size
  | .zip _ _ xs ys => min xs.length ys.length
def Sq.ok (kl : Addr → List V → Prop) (g : G) : Sq → Prop
  | .lst a xs | .enm a xs => Ls kl g a xs
  | .tup a xs => g a = some (.tup xs)
  | .zip a b xs ys => Ls kl g a xs ∧ Ls kl g b ys
  | _ => True
def Sq.item (i : Nat) (g : G) (Q : V → G → Prop) : Sq → Prop
  | .lst _ xs | .tup _ xs => ∀ x, xs[i]? = some x → Q x g
  | .rng lo st _ => Q (.int (lo + (i : Nat) * st)) g
  | .str z => ∀ c, z.cps[i]? = some c → Q (.str ⟨#[c]⟩) g
  | .enm _ xs => ∀ p x, xs[i]? = some x → g p = none → Q (.ref p) (gu g p (.tup [.int (i : Nat), x]))
  | .enmS z => ∀ p c, z.cps[i]? = some c → g p = none → Q (.ref p) (gu g p (.tup [.int (i : Nat), .str ⟨#[c]⟩]))
  | .zip _ _ xs ys => ∀ p x y, xs[i]? = some x → ys[i]? = some y → g p = none → Q (.ref p) (gu g p (.tup [x, y]))
abbrev TI := Cal → St → G → (Sq → G → Prop) → Prop
/-- a list, a tuple, a text -/
def wkV (kl : Addr → List V → Prop) (x : V) (g1 : G) (R : Sq → G → Prop) : Prop := match x with
  | .str z => R (.str z) g1
  | .ref p => (∃ xs, Ls kl g1 p xs ∧ R (.lst p xs) g1) ∨ ∃ xs, g1 p = some (.tup xs) ∧ R (.tup p xs) g1
  | _ => False
def iVal (a : T) : TI := fun c σ g R => a c σ g fun x g1 => wkV c.kl x g1 R
def iRng1 (a : T) : TI := fun c σ g R => a c σ g fun x g1 => ∃ j : Int, x = .int j ∧ -(2 ^ 62) ≤ j ∧ j < 2 ^ 62 ∧ R (.rng 0 1 j.toNat) g1
def iRng2 (a b : T) : TI := fun c σ g R => a c σ g fun x g1 => b c σ g1 fun y g2 => ∃ i j : Int, x = .int i ∧ y = .int j ∧ -(2 ^ 62) ≤ i ∧ i < 2 ^ 62 ∧ -(2 ^ 62) ≤ j ∧ j < 2 ^ 62 ∧ R (.rng i 1 (j - i).toNat) g2
def iRng3 (a b d : T) : TI := fun c σ g R => a c σ g fun x g1 => b c σ g1 fun y g2 => d c σ g2 fun z g3 => ∃ (i j s : Int) (n : Nat), x = .int i ∧ y = .int j ∧ z = .int s ∧ RgC i j s n ∧ R (.rng i s n) g3
def iEnm (a : T) : TI := fun c σ g R => a c σ g fun x g1 => (∃ p xs, x = .ref p ∧ Ls c.kl g1 p xs ∧ R (.enm p xs) g1) ∨ ∃ z, x = .str z ∧ R (.enmS z) g1
def iZip (a b : T) : TI := fun c σ g R => a c σ g fun x g1 => b c σ g1 fun y g2 => ∃ p q xs ys, x = .ref p ∧ y = .ref q ∧ Ls c.kl g2 p xs ∧ Ls c.kl g2 q ys ∧ R (.zip p q xs ys) g2

/-! ### targets -/
def gN (i : Nat) : TTg := fun _ v σ g Q => Q (σ.set i (some v)) g
def gTp (is : List Nat) : TTg := fun _ v σ g Q => ∃ a xs, v = .ref a ∧ g a = some (.tup xs) ∧ xs.length = is.length ∧ Q ((is.zip xs).foldl (fun s p => s.set p.1 (some p.2)) σ) g

/-! ### comprehensions -/
def eLc (src : TI) (tg : TTg) (tt : TB) (e : T) (own : List Nat) : T := fun c σ g Q => src c σ g fun S g1 => ∀ D, g1 D = none → ∃ W : Nat → List V → G → Prop, W 0 [] (gu g1 D (.lst [])) ∧ ∀ i acc g2, W i acc g2 →
  S.ok c.kl g2 ∧ g2 D = some (.lst acc) ∧ if i < S.len then S.item i g2 fun x g3 => tg c x (wipe σ own) g3 fun σ4 g4 => wipe σ4 own = wipe σ own ∧ tt { c with er := fun _ _ _ => False } σ4 g4 fun b g5 =>
    if b = true then e { c with er := fun _ _ _ => False } σ4 g5 fun y g6 => g6 D = some (.lst acc) ∧ acc.length < sizeLine ∧ ∃ g7, Sub g7 (gu g6 D (.lst (acc ++ [y]))) ∧ W (i + 1) (acc ++ [y]) g7 else ∃ g7, Sub g7 g5 ∧ W (i + 1) acc g7
  else Q (.ref D) g2

/-! ### statements -/
def sNext : TSt := fun _ D σ g => D.nx σ g
def sSeq (a b : TSt) : TSt := fun c D σ g => a c { D with nx := b c D } σ g
def sDrop (e : T) : TSt := fun c D σ g => e c σ g fun _ g1 => D.nx σ g1
def sRet (e : T) : TSt := fun c D σ g => e c σ g D.rt
def sRetN : TSt := fun _ D _ g => D.rt .non g
def sIf (t : TB) (a b : TSt) : TSt := fun c D σ g => t c σ g fun k g1 => if k = true then a c D σ g1 else b c D σ g1
def sBrk : TSt := fun _ D σ g => D.bk σ g
def sAsg (e : T) (t : TTg) : TSt := fun c D σ g => e c σ g fun x g1 => t c x σ g1 D.nx
def sSetIx (o i e : T) : TSt := fun c D σ g => e c σ g fun v g1 => o c σ g1 fun x g2 => i c σ g2 fun y g3 => ∃ a, x = .ref a ∧
  ((∃ xs k j, y = .int k ∧ g3 a = some (.lst xs) ∧ ixN xs.length k = some j ∧ D.nx σ (gu g3 a (.lst (xs.set j v)))) ∨ ∃ g4, dPut g3 a y v g4 ∧ D.nx σ g4)
def sSetAt (o : T) (f : Nat) (e : T) : TSt := fun c D σ g => e c σ g fun v g1 => o c σ g1 fun x g2 => ∃ a cn fs, x = .ref a ∧ g2 a = some (.ins cn fs) ∧ f ∈ atOf cn ∧ fs.length < 1000 ∧ D.nx σ (gu g2 a (.ins cn (putN f v fs)))
def sRaise (e : Nat) : TSt := fun c _ σ g => c.er e σ g
def sWhile (t : TB) (b : TSt) : TSt := fun c D σ g => ∃ W : Nat → St → G → Prop, (∃ m, W m σ g) ∧ ∀ m σ g, W m σ g → t c σ g fun k g1 =>
  if k = true then b c { D with nx := fun σ' g' => ∃ m' g'', m' < m ∧ Sub g'' g' ∧ W m' σ' g'', ct := fun σ' g' => ∃ m' g'', m' < m ∧ Sub g'' g' ∧ W m' σ' g'', bk := D.nx } σ g1 else D.nx σ g1
def sFor (src : TI) (tg : TTg) (b : TSt) : TSt := fun c D σ g => src c σ g fun S g1 => ∃ W : Nat → St → G → Prop, W 0 σ g1 ∧ ∀ i σ g, W i σ g →
  S.ok c.kl g ∧ if i < S.len then S.item i g fun x g3 => tg c x σ g3 fun σ4 g4 =>
    b c { D with nx := fun σ' g' => ∃ g'', Sub g'' g' ∧ W (i + 1) σ' g'', ct := fun σ' g' => ∃ g'', Sub g'' g' ∧ W (i + 1) σ' g'', bk := D.nx } σ4 g4
  else D.nx σ g

/-! ### defs, by call depth -/
structure FDef where
  n : Nat
  sz : Nat
  body : TSt
def startG (sz : Nat) (vs : List V) : St := vs.map some ++ List.replicate (sz - vs.length) none
/-- what a def promises at a depth; what it dropped may be forgotten at its end -/
def Gam (kl : Addr → List V → Prop) (base : Nat → SpG) (defs : Nat → Option FDef) : Nat → Nat → SpG
  | 0, f => base f
  | k + 1, f => fun vs g Q E => base f vs g Q E ∨ match defs f with
    | some d => vs.length = d.n ∧ d.body ⟨kl, Gam kl base defs k, fun e _ g' => ∃ g'', Sub g'' g' ∧ E e g''⟩ ⟨fun _ g' => ∃ g'', Sub g'' g' ∧ Q .non g'', fun v g' => ∃ g'', Sub g'' g' ∧ Q v g'', fun _ _ => False, fun _ _ => False⟩ (startG d.sz vs) g
    | none => False
end SW
end

section
set_option Elab.async false
set_option linter.all false
set_option maxRecDepth 100000
set_option maxHeartbeats 4000000
/-! How the abstract heap lies in the hand layer's heap; operations on values. -/
namespace SW
open PySem PySem.Spec PyProof.Rows L2

theorem gu_same {g : G} {a : Addr} {o : O} : gu g a o a = some o := by unfold gu; rw [if_pos rfl]
theorem gu_ne {g : G} {a b : Addr} {o : O} (h : b ≠ a) : gu g a o b = g b := by unfold gu; rw [if_neg h]

structure Prm where
  K : PySem.W.Frag
  kl : Addr → List V → Prop
  cls : Nat → Option Addr

def nmF (fs : List (Nat × V)) : List (Str × V) := fs.map fun p => (anOf p.1, p.2)

structure ShL where
  a1 : Addr
  a2 : Addr
  a3 : Addr
  a4 : Addr
  a5 : Addr
  a6 : Addr
  a7 : Addr
  a8 : Addr
def ShL.all (l : ShL) : List Addr := [l.a1, l.a2, l.a3, l.a4, l.a5, l.a6, l.a7, l.a8]
/-- a Shelf's attributes: pieces, numbers, told_signs, told_ends, told_leaves, told_heights, firsts, lasts -/
def ShL.fs (l : ShL) : List (Nat × V) := [(0, .ref l.a1), (1, .ref l.a2), (2, .ref l.a3), (3, .ref l.a4), (4, .ref l.a5), (5, .ref l.a6), (6, .ref l.a7), (7, .ref l.a8)]
def pcK : Sum Str (Nat × Nat) → List Key
  | .inl s => [.inr "leaf", .inr s]
  | .inr (a, b) => [.inr "fork", .inl (a : Int), .inl (b : Int)]
def shD : Nat → Sh → List (List Key × V)
  | _, [] => []
  | n, r :: S => (pcK r.pc, .int ((n : Int) + 1)) :: shD (n + 1) S
/-- the shelf's objects -/
structure ShObj (H : Hp) (l : ShL) (ts : List Addr) (S : Sh) : Prop where
  len : ts.length = S.length
  tu : ∀ (i : Nat) (t : Addr) (r : PRec), ts[i]? = some t → S[i]? = some r → H t = some (.tup ((pcK r.pc).map kV))
  o1 : H l.a1 = some (.lst (.non :: ts.map V.ref))
  o2 : H l.a2 = some (.dT (shD 0 S))
  o3 : H l.a3 = some (.lst (.int 0 :: S.map fun r => .int r.sg))
  o4 : H l.a4 = some (.lst (.int 0 :: S.map fun r => .int r.en))
  o5 : H l.a5 = some (.lst (.int 0 :: S.map fun r => .int r.lv))
  o6 : H l.a6 = some (.lst (.int (-1) :: S.map fun r => .int r.ht))
  o7 : H l.a7 = some (.lst (.int 0 :: S.map fun r => .int r.fi))
  o8 : H l.a8 = some (.lst (.int 0 :: S.map fun r => .int r.la))

abbrev Own := Addr → Option Addr
structure ShAt (P : Prm) (own : Own) (H : Hp) (a : Addr) (S : Sh) : Prop where
  ex : ∃ C dx l ts, P.cls 0 = some C ∧ H a = some (.ins C dx (nmF l.fs)) ∧ (∀ b ∈ l.all, own b = some a) ∧ l.all.Nodup ∧ ShObj H l ts S

def OkAt (P : Prm) (own : Own) (H : Hp) (a : Addr) : O → Prop
  | .lst xs => H a = some (.lst xs)
  | .tup xs => H a = some (.tup xs)
  | .dK kvs => H a = some (.dK kvs)
  | .dT kvs => H a = some (.dT kvs)
  | .ins c fs => ∃ C dx, P.cls c = some C ∧ H a = some (.ins C dx (nmF fs)) ∧ ∀ p ∈ fs, p.1 ∈ atOf c
  | .shf S => ShAt P own H a S
structure Abs (P : Prm) (own : Own) (g : G) (H : Hp) : Prop where
  at_ : ∀ a o, g a = some o → own a = none ∧ OkAt P own H a o
  live : ∀ b a, own b = some a → (∃ xs, H b = some (.lst xs)) ∨ ∃ kvs, H b = some (.dT kvs)
  kl : ∀ a xs, P.kl a xs → (∃ o, H a = some (.frz o (.lst xs))) ∨
    ∃ (o : Obj) (its : Array Value) (n : Nat), P.K.lookup a = some o ∧ o.cls = .type "list" ∧ o.dict = none ∧ o.data = .seq its n ∧ its.size ≤ sizeLine ∧ Vals xs its.toList
def Ab (P : Prm) (g : G) (H : Hp) : Prop := ∃ own, Abs P own g H

section
variable {P : Prm} {own : Own} {g g' : G} {H H' : Hp} {a x : Addr} {o : O} {u u0 : HO}
theorem ShObj.mono {l : ShL} {ts : List Addr} {S : Sh} (h : ShObj H l ts S) (k : ∀ b u, (b ∈ l.all ∨ b ∈ ts) → H b = some u → H' b = some u) : ShObj H' l ts S := by
  refine ⟨h.len, fun i t r e1 e2 => k _ _ (.inr (List.mem_of_getElem? e1)) (h.tu i t r e1 e2), k _ _ (.inl ?_) h.o1, k _ _ (.inl ?_) h.o2, k _ _ (.inl ?_) h.o3, k _ _ (.inl ?_) h.o4, k _ _ (.inl ?_) h.o5, k _ _ (.inl ?_) h.o6, k _ _ (.inl ?_) h.o7, k _ _ (.inl ?_) h.o8⟩ <;> simp [ShL.all]
/-- two heaps that agree on what is there but at x, an object that no shelf owns -/
theorem OkAt.keep (h : OkAt P own H a o) (k : ∀ b u, b ≠ x → H b = some u → H' b = some u) (hx : own x = none) (ht : ∀ xs, H x ≠ some (.tup xs)) (ne : a ≠ x) : OkAt P own H' a o := by
  cases o with
  | lst xs => exact k _ _ ne h
  | tup xs => exact k _ _ ne h
  | dK xs => exact k _ _ ne h
  | dT xs => exact k _ _ ne h
  | ins c fs => obtain ⟨C, dx, e, h, q⟩ := h; exact ⟨C, dx, e, k _ _ ne h, q⟩
  | shf S =>
    obtain ⟨C, dx, l, ts, e, h, q, nd, ob⟩ := h.ex
    refine ⟨⟨C, dx, l, ts, e, k _ _ ne h, q, nd, ob.mono fun b u hb hu => k b u ?_ hu⟩⟩
    rintro rfl
    rcases hb with hb | hb
    · rw [q _ hb] at hx; cases hx
    · obtain ⟨i, hi⟩ := List.getElem?_of_mem hb
      have hl : i < S.length := by rw [← ob.len]; exact (List.getElem?_eq_some_iff.mp hi).1
      exact ht _ (ob.tu i _ _ hi (List.getElem?_eq_getElem hl))
theorem OkAt.some (h : OkAt P own H a o) : H a ≠ none := by
  cases o with
  | lst xs => intro e; rw [show H a = _ from h] at e; cases e
  | tup xs => intro e; rw [show H a = _ from h] at e; cases e
  | dK xs => intro e; rw [show H a = _ from h] at e; cases e
  | dT xs => intro e; rw [show H a = _ from h] at e; cases e
  | ins c fs => obtain ⟨C, dx, e, h, q⟩ := h; rw [h]; exact fun z => nomatch z
  | shf S => obtain ⟨C, dx, l, ts, e, h, q, nd, ob⟩ := h.ex; rw [h]; exact fun z => nomatch z
theorem Ab.sub (h : Ab P g H) (s : Sub g' g) : Ab P g' H := let ⟨own, h⟩ := h; ⟨own, fun a o e => h.at_ a o (s a o e), h.live, h.kl⟩
theorem Ab.fresh (h : Ab P g H) (e : H a = none) : g a = none := by
  obtain ⟨own, h⟩ := h
  cases q : g a with
  | none => rfl
  | some o => exact absurd e (h.at_ a o q).2.some
/-- new objects (p among those where H was empty) -/
theorem Ab.new (h : Ab P g H) (e : H a = none) (k : ∀ b v, H b = some v → H' b = some v) (ok : ∀ own, OkAt P own H' a o) : Ab P (gu g a o) H' := by
  obtain ⟨own, h⟩ := h
  have hg : g a = none := Ab.fresh ⟨own, h⟩ e
  have ho : own a = none := by
    cases q : own a with
    | none => rfl
    | some z => rcases h.live _ _ q with ⟨_, z⟩ | ⟨_, z⟩ <;> rw [e] at z <;> cases z
  refine ⟨own, fun b v q => ?_, fun b c q => ?_, fun b xs q => ?_⟩
  · by_cases hb : b = a
    · subst hb; rw [gu_same] at q; cases q; exact ⟨ho, ok own⟩
    · rw [gu_ne hb] at q
      obtain ⟨h1, h2⟩ := h.at_ b v q
      exact ⟨h1, h2.keep (fun c u _ z => k c u z) ho (fun xs z => by rw [e] at z; cases z) hb⟩
  · rcases h.live _ _ q with ⟨xs, z⟩ | ⟨xs, z⟩
    · exact .inl ⟨xs, k _ _ z⟩
    · exact .inr ⟨xs, k _ _ z⟩
  · rcases h.kl b xs q with ⟨o, z⟩ | z
    · exact .inl ⟨o, k _ _ z⟩
    · exact .inr z
/-- an object is changed -/
theorem Ab.set {o0 : O} (h : Ab P g H) (hg : g a = some o0) (hu : H a = some u0) (nt : ∀ xs, u0 ≠ .tup xs) (nf : ∀ q r, u0 ≠ .frz q r) (ok : ∀ own, OkAt P own (upd H a u) a o) : Ab P (gu g a o) (upd H a u) := by
  obtain ⟨own, h⟩ := h
  have ho : own a = none := (h.at_ a o0 hg).1
  refine ⟨own, fun b v q => ?_, fun b c q => ?_, fun b xs q => ?_⟩
  · by_cases hb : b = a
    · subst hb; rw [gu_same] at q; cases q; exact ⟨ho, ok own⟩
    · rw [gu_ne hb] at q
      obtain ⟨h1, h2⟩ := h.at_ b v q
      exact ⟨h1, h2.keep (fun c u hc z => by rw [upd_ne hc]; exact z) ho (fun xs z => by rw [hu] at z; cases z; exact nt _ rfl) hb⟩
  · by_cases hb : b = a
    · subst hb; rw [ho] at q; cases q
    · rw [upd_ne hb]; exact h.live _ _ q
  · rcases h.kl b xs q with ⟨o, z⟩ | z
    · refine .inl ⟨o, ?_⟩
      rw [upd_ne]
      · exact z
      · rintro rfl; rw [hu] at z; cases z; exact nf _ _ rfl
    · exact .inr z
theorem Ab.lst {xs} (h : Ab P g H) (e : g a = some (.lst xs)) : H a = some (.lst xs) := let ⟨_, h⟩ := h; (h.at_ _ _ e).2
theorem Ab.tup {xs} (h : Ab P g H) (e : g a = some (.tup xs)) : H a = some (.tup xs) := let ⟨_, h⟩ := h; (h.at_ _ _ e).2
theorem Ab.dK {xs} (h : Ab P g H) (e : g a = some (.dK xs)) : H a = some (.dK xs) := let ⟨_, h⟩ := h; (h.at_ _ _ e).2
theorem Ab.dT {xs} (h : Ab P g H) (e : g a = some (.dT xs)) : H a = some (.dT xs) := let ⟨_, h⟩ := h; (h.at_ _ _ e).2
theorem Ab.ins {c fs} (h : Ab P g H) (e : g a = some (.ins c fs)) : ∃ C dx, P.cls c = some C ∧ H a = some (.ins C dx (nmF fs)) ∧ ∀ p ∈ fs, p.1 ∈ atOf c := let ⟨_, h⟩ := h; (h.at_ _ _ e).2
theorem Ab.setL {xs ys} (h : Ab P g H) (e : g a = some (.lst xs)) : Ab P (gu g a (.lst ys)) (upd H a (.lst ys)) :=
  h.set e (h.lst e) (fun _ z => nomatch z) (fun _ _ z => nomatch z) fun _ => upd_same
theorem Ab.setK {xs ys} (h : Ab P g H) (e : g a = some (.dK xs)) : Ab P (gu g a (.dK ys)) (upd H a (.dK ys)) :=
  h.set e (h.dK e) (fun _ z => nomatch z) (fun _ _ z => nomatch z) fun _ => upd_same
theorem Ab.setT {xs ys} (h : Ab P g H) (e : g a = some (.dT xs)) : Ab P (gu g a (.dT ys)) (upd H a (.dT ys)) :=
  h.set e (h.dT e) (fun _ z => nomatch z) (fun _ _ z => nomatch z) fun _ => upd_same
theorem keep_upd (e : H a = none) : ∀ b v, H b = some v → upd H a u b = some v := fun b v z => by
  rw [upd_ne (ne_of_none z e)]; exact z
theorem Ab.newL {xs} (h : Ab P g H) (e : H a = none) : Ab P (gu g a (.lst xs)) (upd H a (.lst xs)) := h.new e (keep_upd e) fun _ => upd_same
theorem Ab.newU {xs} (h : Ab P g H) (e : H a = none) : Ab P (gu g a (.tup xs)) (upd H a (.tup xs)) := h.new e (keep_upd e) fun _ => upd_same
theorem Ab.newK {xs} (h : Ab P g H) (e : H a = none) : Ab P (gu g a (.dK xs)) (upd H a (.dK xs)) := h.new e (keep_upd e) fun _ => upd_same
theorem Ab.newT {xs} (h : Ab P g H) (e : H a = none) : Ab P (gu g a (.dT xs)) (upd H a (.dT xs)) := h.new e (keep_upd e) fun _ => upd_same
theorem Ab.ls {xs} (h : Ab P g H) (l : Ls P.kl g a xs) : SqL P.K H a xs := by
  rcases l with l | l
  · exact SqL.of (h.lst l)
  · obtain ⟨own, h⟩ := h
    rcases h.kl a xs l with ⟨o, z⟩ | z
    · exact .inl (.inr ⟨o, z⟩)
    · exact .inr z
theorem Ab.tp {xs} (h : Ab P g H) (l : g a = some (.tup xs)) : SqT P.K H a xs := SqT.of (h.tup l)
mutual
theorem Ab.dg (h : Ab P g H) : ∀ {v : V} {d : PyData}, Dg P.kl g v d → Dp P.K H v d
  | _, _, .non => .non
  | _, _, .bl b => .bl b
  | _, _, .int i => .int i
  | _, _, .str x => .str x
  | _, _, .lst l r => .lst (h.ls l) (Ab.dgs h r)
  | _, _, .tup l r => .tup (h.tp l) (Ab.dgs h r)
theorem Ab.dgs (h : Ab P g H) : ∀ {v : List V} {d : List PyData}, DgAll P.kl g v d → DpAll P.K H v d
  | _, _, .nil => .nil
  | _, _, .cons r t => .cons (Ab.dg h r) (Ab.dgs h t)
end
theorem Ab.dget {y r} (h : Ab P g H) (d : dGet g a y r) : DGet H a y r := by
  rcases d with ⟨kvs, k, e, rfl, rfl⟩ | ⟨kvs, k, b, e, rfl, eb, rfl⟩
  · exact .inl ⟨kvs, k, .inl (h.dK e), rfl, rfl⟩
  · exact .inr ⟨kvs, k, b, .inl (h.dT e), rfl, h.tup eb, rfl⟩
theorem Ab.dput {y v} (h : Ab P g H) (d : dPut g a y v g') : ∃ H', DPut H a y v H' ∧ Ab P g' H' := by
  rcases d with ⟨kvs, k, e, rfl, hl, rfl⟩ | ⟨kvs, k, b, e, rfl, eb, hl, rfl⟩
  · exact ⟨_, .inl ⟨kvs, k, h.dK e, rfl, hl, rfl⟩, h.setK e⟩
  · exact ⟨_, .inr ⟨kvs, k, b, h.dT e, rfl, h.tup eb, hl, rfl⟩, h.setT e⟩
end

/-! ### a reading of the abstract heap as one of the hand layer's -/
def Lo (P : Prm) {α : Type} (t : G → (α → G → Prop) → Prop) : Hp → (α → Hp → Prop) → Prop := fun H Q =>
  ∃ g Q', Ab P g H ∧ t g Q' ∧ ∀ v g' H', Q' v g' → Ab P g' H' → Q v H'
section
variable {P : Prm} {α β : Type} {H : Hp}
theorem Lo.bind {a : G → (α → G → Prop) → Prop} {k : α → G → (β → G → Prop) → Prop} {Q : β → Hp → Prop} (h : Lo P (fun g Q => a g fun x g1 => k x g1 Q) H Q) : Lo P a H (fun x H1 => Lo P (k x) H1 Q) := by
  obtain ⟨g, Q', A, h, i⟩ := h
  exact ⟨g, _, A, h, fun x g1 H1 hk A1 => ⟨g1, Q', A1, hk, i⟩⟩
end
theorem PE.imp {X : Cx} {e : Expr} {t t' : TE} (h : PE X e t) (i : ∀ σ H Q, t' σ H Q → t σ H Q) : PE X e t' := ⟨fun pins s σ H Q I q => h.run pins s σ H Q I (i σ H Q q)⟩
theorem PT.imp {X : Cx} {e : Expr} {t t' : TT} (h : PT X e t) (i : ∀ σ H Q, t' σ H Q → t σ H Q) : PT X e t' := ⟨fun pins s σ H Q I q => h.run pins s σ H Q I (i σ H Q q)⟩
theorem PA.imp {X : Cx} {e : List Expr} {t t' : TA} (h : PA X e t) (i : ∀ σ H Q, t' σ H Q → t σ H Q) : PA X e t' := ⟨fun pos pins s σ H Q I q => h.run pos pins s σ H Q I (i σ H Q q)⟩
theorem PS.imp {X : Cx} {e : Stmt} {t t' : TS} (h : PS X e t) (i : ∀ D σ H, t' D σ H → t D σ H) : PS X e t' := ⟨fun pins s σ H D I q => h.run pins s σ H D I (i D σ H q)⟩
theorem PSs.imp {X : Cx} {e : List Stmt} {t t' : TS} (h : PSs X e t) (i : ∀ D σ H, t' D σ H → t D σ H) : PSs X e t' := ⟨fun pins s σ H D I q => h.run pins s σ H D I (i D σ H q)⟩

/-! ### operations -/
section
variable {P : Prm} {X : Cx}
theorem add_seq {prog : Program} {w : World} {A : Around} {E : Value → Shared → Prop} {s : Shared} {l b : Addr} {vs ws : List Value} {Q : Value → Shared → Prop} (hl : PlainL s.heap l vs.toArray) (hb : PlainL s.heap b ws.toArray)
    (hsz : vs.length + ws.length ≤ sizeLine) (h : Q (.ref s.heap.objs.size) { s with heap := s.heap.push { cls := .type "list", data := .seq (vs ++ ws).toArray } }) :
    wpAny (model prog w) A (binaryOp .Add (.ref l) (.ref b)) Q E s := by
  obtain ⟨⟨cls, dd, data, sl⟩, n, ho, hc, hz, hd⟩ := id hl
  obtain ⟨⟨cls2, dd2, data2, sl2⟩, n2, ho2, hc2, hz2, hd2⟩ := id hb
  simp only at hc hd hc2 hd2
  subst hc hd hc2 hd2
  have e : vs.toArray ++ ws.toArray = (vs ++ ws).toArray := by simp
  refine concat_meets ⟨_, ho, rfl⟩ ⟨_, ho2, rfl⟩ noFill_list_add seq_list_add PySem.F.slot_list_add PySem.F.entry_list_add (PySem.F.args_list_add_2 _ _) (list_addW l b vs.toArray ws.toArray n n2 dd dd2 sl sl2 (by simpa using hsz)) ⟨ho, ho2, ?_⟩
  rw [e]
  exact h
theorem foldl_cat {α : Type} : ∀ (l : List (Array α)) (z : Array α), l.foldl (· ++ ·) z = (z.toList ++ (l.map Array.toList).flatten).toArray
  | [], z => by simp
  | a :: r, z => by rw [List.foldl_cons, foldl_cat r]; simp
theorem strRep (a : Str) (k : Nat) : (⟨(List.replicate k a.cps).foldl (· ++ ·) #[]⟩ : Str) = ⟨(List.replicate k a.cps.toList).flatten.toArray⟩ := by
  rw [foldl_cat]; simp
theorem op_bin (hK : X.K = P.K) {op : Operator} : OpR X (binaryOp op) (fun x y H Q => Lo P (binV P.kl op x y) H Q) := by
  intro pins s σ H x y v u Q I rx ry h
  obtain ⟨g, Q', A, h, i⟩ := h
  unfold binV at h
  split at h
  · exact op_add pins s σ H _ _ v u Q I rx ry ⟨_, _, rfl, rfl, i _ _ _ h A⟩
  · exact op_add_str pins s σ H _ _ v u Q I rx ry ⟨_, _, rfl, rfl, h.1, i _ _ _ h.2 A⟩
  · obtain ⟨xs, ys, l1, l2, hz, q⟩ := h
    cases rx; cases ry
    have s1 := A.ls l1
    have s2 := A.ls l2
    rw [← hK] at s1 s2
    obtain ⟨its, r1, p1, z1⟩ := I.list s1
    obtain ⟨its2, r2, p2, z2⟩ := I.list s2
    refine add_seq p1 p2 (by rw [← r1.length, ← r2.length]; exact hz) ?_
    exact ⟨.ref _, _, I.lnew (t' := s.toks) (r1.append r2) (by rw [List.length_append]; exact hz), rfl, i _ _ _ (q _ (A.fresh I.fresh)) (A.newL I.fresh)⟩
  · exact op_sub pins s σ H _ _ v u Q I rx ry ⟨_, _, rfl, rfl, i _ _ _ h A⟩
  · exact op_mulW pins s σ H _ _ v u Q I rx ry ⟨_, _, rfl, rfl, h.1, i _ _ _ h.2 A⟩
  · rename_i a k
    obtain ⟨h1, h2, h3, q⟩ := h
    obtain ⟨t, rfl⟩ := rx
    obtain ⟨t', rfl⟩ := ry
    have fin : ∀ (t : Tok) s', Inv X pins σ H s' → EP X pins σ Q (.str ⟨(List.replicate k.toNat a.cps.toList).flatten.toArray⟩ t) s' := fun t s' I' => ⟨.str _, H, I', ⟨t, rfl⟩, i _ _ _ q A⟩
    have emp : k < 1 → (Str.empty : Str) = ⟨(List.replicate k.toNat a.cps.toList).flatten.toArray⟩ := fun hk => by
      have : k.toNat = 0 := by omega
      rw [this]; rfl
    refine PySem.P.mul_str (by
        have h3 : ¬ k < -(2 ^ 63) := by omega
        have h4 : ¬ k ≥ 2 ^ 63 := by omega
        rw [decide_eq_false h3, decide_eq_false h4]; rfl) (fun k1 k2 => ?_) (fun k1 k2 => ?_) ?_
    · have e : (k.toNat : Int) = k := by omega
      have hz : (a.length : Int) * k ≤ 2 ^ 24 := by
        have : ((a.length * k.toNat : Nat) : Int) ≤ (2 ^ 24 : Nat) := Int.ofNat_le.mpr h3
        rw [Int.natCast_mul, e] at this
        simpa using this
      intro hgt
      have hk : (0 : Int) < k := by omega
      have := Int.lt_mul_of_ediv_lt hk hgt
      omega
    · show decide (_ > _) = false
      rw [decide_eq_false]
      show ¬ (_ : Nat) > _
      omega
    · by_cases hk : k < 1
      · rw [if_pos hk]
        refine ⟨by decide, ?_⟩
        rw [emp hk]
        exact fin _ _ (I.tok _)
      · rw [if_neg hk]
        by_cases hk2 : (k == 1 || a.length == 0) = true
        · rw [if_pos hk2]
          have e : a = ⟨(List.replicate k.toNat a.cps.toList).flatten.toArray⟩ := by
            rcases Bool.or_eq_true_iff.mp hk2 with z | z
            · have : k = 1 := by simpa using z
              subst this
              apply Str.ext'
              simp
            · have z2 : a.cps.size = 0 := by
                have : (a.length == 0) = true := z
                exact of_decide_eq_true this
              apply Str.ext'
              have z3 : a.cps.toList = [] := by
                apply List.eq_nil_of_length_eq_zero
                simpa using z2
              rw [z3]
              have z4 : a.cps = #[] := by
                apply Array.toList_inj.mp
                rw [z3]
              rw [z4]
              simp
          show EP X pins σ Q (.str a t) s
          have := fin t s I
          rw [← e] at this
          exact this
        · rw [if_neg hk2]
          refine ⟨?_, ?_⟩
          · rw [strRep]
            have : (Str.mk (List.replicate k.toNat a.cps.toList).flatten.toArray).length = k.toNat * a.length := by
              show Array.size _ = _
              simp [Str.length]
            rw [this, Nat.mul_comm]
            omega
          · rw [strRep]
            exact fin _ _ (I.tok _)
  · obtain ⟨xs, e, h1, h2, h3, q⟩ := h
    exact op_rep pins s σ H _ _ v u Q I rx ry ⟨_, _, xs, rfl, rfl, A.lst e, h1, h2, h3, fun p np => i _ _ _ (q p (A.fresh np)) (A.newL np)⟩
  · exact op_fdivW pins s σ H _ _ v u Q I rx ry ⟨_, _, rfl, rfl, h.1, i _ _ _ h.2 A⟩
  · exact op_mod pins s σ H _ _ v u Q I rx ry ⟨_, _, rfl, rfl, h.1, i _ _ _ h.2 A⟩
  · exact op_pow pins s σ H _ _ v u Q I rx ry ⟨_, _, rfl, rfl, h.1, i _ _ _ h.2 A⟩
  · exact h.elim
end
end SW
end

section
set_option Elab.async false
set_option linter.all false
set_option maxRecDepth 100000
set_option maxHeartbeats 4000000
/-! == of lists of unlike lengths. -/
namespace PySem.SeqAt
open AutoSeq1 (wpAny_loadPart')
open MeetsSeq MeetsSeq2 MeetsSeq3 SeqRoads2
section
variable {prog : Program} {w : World}
theorem own_list_neIn (l b : Addr) (items items2 : Array Value) (n n2 : Nat) (dd dd2 : Option Addr) (sl sl2 : Array (Option Value)) (hsz : items.size ≠ items2.size) :
    MeetsIn prog w (Builtin.«list.__eq__» ⟨[.ref l, .ref b], []⟩)
      (fun A R s => s.heap.get? l = some { cls := .type "list", dict := dd, data := .seq items n, slots := sl } ∧ s.heap.get? b = some { cls := .type "list", dict := dd2, data := .seq items2 n2, slots := sl2 } ∧
        R (.ok (.ret (.bool false))) s) := by
  intro A R s h
  obtain ⟨hp, g, d, tk, os⟩ := s; obtain ⟨hl, hb, h⟩ := h
  have f3 := AutoSeq1.sub_list_list
  have hne : (items.size != items2.size) = true := by simpa using hsz
  wp_walk using wpAny_loadPart' hl, wpAny_loadPart' hb
  first | exact h | (simpa using h) | skip
theorem own_lists_ne {A : Around} {s : Shared} {l b : Addr} {items items2 : Array Value} (hl : s.heap.IsList l items) (hb : s.heap.IsList b items2) (hsz : items.size ≠ items2.size) (hu : A.units < cLine)
    (E Q : Value → Shared → Prop) (h : Q (.bool false) s) : wpAny (model prog w) A (richCompare .Eq (.ref l) (.ref b)) Q E s := by
  obtain ⟨⟨cls, dd, data, sl⟩, ho, hc, n, hd⟩ := id hl
  obtain ⟨⟨cls2, dd2, data2, sl2⟩, ho2, hc2, n2, hd2⟩ := id hb
  simp only at hc hd hc2 hd2
  subst hc hd hc2 hd2
  have ta : s.TypeIs (.ref l) "list" := ⟨_, ho, rfl⟩
  have tb : s.TypeIs (.ref b) "list" := ⟨_, ho2, rfl⟩
  exact wpAny_richCompare_same_room (op := .Eq) ta tb F.slot_list_eq (call_meetsIn F.slot_list_eq ta F.entry_list_eq (F.args_list_eq_2 _ _) (own_list_neIn l b items items2 n n2 dd dd2 sl sl2 hsz)
    ⟨ho, ho2, show Value.bool false ≠ Value.notImplemented ∧ Q (.bool false) s from ⟨(fun x => nomatch x), h⟩⟩) hu
end
end PySem.SeqAt
end

section
set_option Elab.async false
set_option linter.all false
set_option maxRecDepth 100000
set_option maxHeartbeats 4000000
namespace SW
open PySem PySem.Spec PyProof.Rows L2
section
variable {P : Prm} {X : Cx}
def cmpL (P : Prm) (op : CmpOp) (x y : V) : Hp → VK → Prop := fun H Q => Lo P (fun g Q' => cmpV P.kl op x y g fun k g3 => Q' (.bl k) g3) H Q
theorem op_eqG (hK : X.K = P.K) (hu : X.A.units + 64 < cLine) {f : Bool → Bool} {op : CmpOp} (h1 : ∀ (r : R2), r = (if f true = true then rEq else rNe) → OpR X (compareOp op) r)
    (h2 : ∀ (r : R2), r = (if f true = true then rEqD X.K else rNeD X.K) → OpR X (compareOp op) r) (hf : f = id ∨ f = not) :
    OpR X (compareOp op) (fun x y H Q => Lo P (fun g Q' => eqV' P.kl x y g fun k g3 => Q' (.bl (f k)) g3) H Q) := by
  intro pins s σ H x y v u Q I rx ry h
  obtain ⟨g, Q', A, h, i⟩ := h
  unfold eqV' at h
  rcases hf with rfl | rfl
  · split at h
    · obtain ⟨d, e, p1, p2, s1, s2, q⟩ := h
      have z1 := A.dg p1
      have z2 := A.dg p2
      rw [← hK] at z1 z2
      exact h2 (rEqD X.K) rfl pins s σ H _ _ v u Q I rx ry ⟨d, e, z1, z2, s1, s2, i _ _ _ q A⟩
    · exact h1 rEq rfl pins s σ H _ _ v u Q I rx ry ⟨h.1, i _ _ _ h.2 A⟩
  · split at h
    · obtain ⟨d, e, p1, p2, s1, s2, q⟩ := h
      have z1 := A.dg p1
      have z2 := A.dg p2
      rw [← hK] at z1 z2
      exact h2 (rNeD X.K) rfl pins s σ H _ _ v u Q I rx ry ⟨d, e, z1, z2, s1, s2, i _ _ _ q A⟩
    · exact h1 rNe rfl pins s σ H _ _ v u Q I rx ry ⟨h.1, i _ _ _ h.2 A⟩
theorem inV_some {xs : List V} {x : V} {neg : Bool} : (if neg then !L2.inV x xs else L2.inV x xs) = (if neg = true then !L2.inV x xs else L2.inV x xs) := rfl
theorem op_cmp (hK : X.K = P.K) (hu : X.A.units + 64 < cLine) {op : CmpOp} : OpR X (compareOp op) (cmpL P op) := by
  have hu1 : X.A.units + 1 < cLine := by omega
  cases op with
  | Eq =>
    intro pins s σ H x y v u Q I rx ry h
    obtain ⟨g, Q', A, h, i⟩ := h
    rcases h with h | ⟨a, b, xs, ys, rfl, rfl, h1, h2, h3, q⟩
    · exact op_eqG hK hu (f := id) (fun r e => by rw [e]; exact op_eq) (fun r e => by rw [e]; exact op_eqD hu) (.inl rfl) pins s σ H x y v u Q I rx ry ⟨g, Q', A, h, i⟩
    · cases rx; cases ry
      have s1 := A.ls (.inl h1)
      have s2 := A.ls (.inl h2)
      rw [← hK] at s1 s2
      obtain ⟨its, r1, p1, z1⟩ := I.list s1
      obtain ⟨its2, r2, p2, z2⟩ := I.list s2
      refine PySem.SeqAt.own_lists_ne p1.isList p2.isList ?_ (by omega) _ _ ⟨.bl _, H, I, rfl, i _ _ _ q A⟩
      have e1 := r1.length
      have e2 := r2.length
      simp only [List.size_toArray]
      omega
  | NotEq => exact op_eqG hK hu (f := not) (fun r e => by rw [e]; exact op_ne) (fun r e => by rw [e]; exact op_neD hu) (.inr rfl)
  | Lt =>
    intro pins s σ H x y v u Q I rx ry h
    obtain ⟨g, Q', A, ⟨a, b, rfl, rfl, q⟩, i⟩ := h
    exact op_lt pins s σ H _ _ v u Q I rx ry ⟨_, _, rfl, rfl, i _ _ _ q A⟩
  | LtE =>
    intro pins s σ H x y v u Q I rx ry h
    obtain ⟨g, Q', A, h, i⟩ := h
    unfold cmpV at h
    simp only at h
    split at h
    · exact op_le pins s σ H _ _ v u Q I rx ry ⟨_, _, rfl, rfl, i _ _ _ h A⟩
    · exact op_le_str pins s σ H _ _ v u Q I rx ry ⟨_, _, rfl, rfl, i _ _ _ h A⟩
    · exact h.elim
  | Gt =>
    intro pins s σ H x y v u Q I rx ry h
    obtain ⟨g, Q', A, ⟨a, b, rfl, rfl, q⟩, i⟩ := h
    exact op_gt pins s σ H _ _ v u Q I rx ry ⟨_, _, rfl, rfl, i _ _ _ q A⟩
  | GtE =>
    intro pins s σ H x y v u Q I rx ry h
    obtain ⟨g, Q', A, ⟨a, b, rfl, rfl, q⟩, i⟩ := h
    exact op_ge pins s σ H _ _ v u Q I rx ry ⟨_, _, rfl, rfl, i _ _ _ q A⟩
  | Is =>
    intro pins s σ H x y v u Q I rx ry h
    obtain ⟨g, Q', A, h, i⟩ := h
    rcases h with ⟨rfl, q⟩ | ⟨a, b, rfl, rfl, q⟩
    · exact op_isN pins s σ H _ _ v u Q I rx ry ⟨rfl, i _ _ _ q A⟩
    · exact op_is_bl pins s σ H _ _ v u Q I rx ry ⟨_, _, rfl, rfl, i _ _ _ q A⟩
  | IsNot =>
    intro pins s σ H x y v u Q I rx ry h
    obtain ⟨g, Q', A, h, i⟩ := h
    rcases h with ⟨rfl, q⟩ | ⟨a, b, rfl, rfl, q⟩
    · exact op_notN pins s σ H _ _ v u Q I rx ry ⟨rfl, i _ _ _ q A⟩
    · exact op_isnot_bl pins s σ H _ _ v u Q I rx ry ⟨_, _, rfl, rfl, i _ _ _ q A⟩
  | In =>
    intro pins s σ H x y v u Q I rx ry h
    obtain ⟨g, Q', A, h, i⟩ := h
    unfold cmpV inV at h
    simp only at h
    split at h
    · obtain ⟨c, rfl, q⟩ := h
      exact op_in_sign pins s σ H _ _ v u Q I rx ry ⟨_, _, rfl, rfl, i _ _ _ q A⟩
    · rcases h with ⟨o, d, q⟩ | ⟨xs, l, f1, f2, q⟩
      · cases ry
        exact d_in hu1 I (A.dget d) rx fun s' I' => ⟨.bl _, H, I', rfl, i _ _ _ q A⟩
      · have z := A.ls l
        rw [← hK] at z
        exact op_in_seq pins s σ H _ _ v u Q I rx ry ⟨_, xs, rfl, .inl z, f1, f2, i _ _ _ q A⟩
    · exact h.elim
  | NotIn =>
    intro pins s σ H x y v u Q I rx ry h
    obtain ⟨g, Q', A, h, i⟩ := h
    unfold cmpV inV at h
    simp only at h
    split at h
    · obtain ⟨c, rfl, q⟩ := h
      exact op_notIn_sign pins s σ H _ _ v u Q I rx ry ⟨_, _, rfl, rfl, i _ _ _ q A⟩
    · rcases h with ⟨o, d, q⟩ | ⟨xs, l, f1, f2, q⟩
      · cases ry
        exact d_notIn hu1 I (A.dget d) rx fun s' I' => ⟨.bl _, H, I', rfl, i _ _ _ q A⟩
      · have z := A.ls l
        rw [← hK] at z
        exact op_notIn_seq pins s σ H _ _ v u Q I rx ry ⟨_, xs, rfl, .inl z, f1, f2, i _ _ _ q A⟩
    · exact h.elim

/-- a slice -/
theorem sl_G (hK : X.K = P.K) : SlR X (fun x lo hi H Q => Lo P (slV P.kl x lo hi) H Q) := by
  intro pins s σ H x v vl vu lo hi sl Q I rx hs pl pu h
  obtain ⟨g, Q', A, h, i⟩ := h
  unfold slV at h
  split at h
  · exact sl_str pins s σ H _ v vl vu lo hi sl Q I rx hs pl pu ⟨_, rfl, h.1, i _ _ _ h.2 A⟩
  · obtain ⟨xs, l, q⟩ := h
    have z := A.ls l
    rw [← hK] at z
    exact sl_list pins s σ H _ v vl vu lo hi sl Q I rx hs pl pu ⟨_, xs, rfl, z, fun p np => i _ _ _ (q p (A.fresh np)) (A.newL np)⟩
  · exact h.elim
/-- the truth of a value -/
theorem tru_G (hK : X.K = P.K) : TruR X (fun x H Q => Lo P (truV P.kl x) H Q) := by
  intro pins s σ H x v Q I rx h
  obtain ⟨g, Q', A, h, i⟩ := h
  unfold truV at h
  split at h
  · exact tru_ok pins s σ H _ v Q I rx ⟨_, rfl, i _ _ _ h A⟩
  · exact tru_ok pins s σ H _ v Q I rx ⟨_, ⟨h.1, rfl⟩, i _ _ _ h.2 A⟩
  · exact h.elim

/-! ### built-in functions, by values -/
abbrev biL (P : Prm) (f : Bi) : List V → Hp → VK → Prop := fun xs H Q => Lo P (biV P.kl f xs) H Q
theorem bi_len (hK : X.K = P.K) : CallR X (.builtin "len") (biL P .len) := by
  intro pins s σ H xs us Q I r h
  obtain ⟨g, Q', A, h, i⟩ := h
  unfold biV at h
  simp only at h
  split at h
  · exact call_len pins s σ H _ us Q I r ⟨_, _, rfl, ⟨h.1, rfl⟩, i _ _ _ h.2 A⟩
  · rcases h with ⟨ys, l, q⟩ | ⟨kvs, e, q⟩
    · rcases l with l | l
      · have z := A.ls l
        rw [← hK] at z
        exact call_len pins s σ H _ us Q I r ⟨_, _, rfl, .inl ⟨ys, z, rfl⟩, i _ _ _ q A⟩
      · have z := A.tp l
        rw [← hK] at z
        exact call_len pins s σ H _ us Q I r ⟨_, _, rfl, .inr ⟨ys, z, rfl⟩, i _ _ _ q A⟩
    · obtain ⟨u, rfl, ru⟩ := vals1 r
      cases ru
      exact d_len I (.inl (A.dK e)) fun t s' I' => ⟨.int _, H, I', ⟨t, rfl⟩, i _ _ _ q A⟩
  · exact h.elim
theorem bi_max (hK : X.K = P.K) (hc : X.calm = true) : CallR X (.builtin "max") (biL P .max) := by
  intro pins s σ H xs us Q I r h
  obtain ⟨g, Q', A, h, i⟩ := h
  unfold biV at h
  simp only at h
  split at h
  · exact call_max2 hc pins s σ H _ us Q I r ⟨_, _, rfl, i _ _ _ h A⟩
  · obtain ⟨ns, l, h0, q⟩ := h
    have z := A.ls l
    rw [← hK] at z
    exact cr_max hc pins s σ H _ us Q I r ⟨_, ns, rfl, z, h0, fun m m1 m2 => i _ _ _ (q m m1 m2) A⟩
  · exact h.elim
theorem bi_min (hK : X.K = P.K) (hc : X.calm = true) : CallR X (.builtin "min") (biL P .min) := by
  intro pins s σ H xs us Q I r h
  obtain ⟨g, Q', A, h, i⟩ := h
  unfold biV at h
  simp only at h
  split at h
  · exact call_min2 hc pins s σ H _ us Q I r ⟨_, _, rfl, i _ _ _ h A⟩
  · obtain ⟨ns, l, h0, q⟩ := h
    have z := A.ls l
    rw [← hK] at z
    exact cr_min hc pins s σ H _ us Q I r ⟨_, ns, rfl, z, h0, fun m m1 m2 => i _ _ _ (q m m1 m2) A⟩
  · exact h.elim
theorem bi_abs : CallR X (.builtin "abs") (biL P .abs) := by
  intro pins s σ H xs us Q I r h
  obtain ⟨g, Q', A, h, i⟩ := h
  unfold biV at h
  simp only at h
  split at h
  · exact call_abs pins s σ H _ us Q I r ⟨_, rfl, i _ _ _ h A⟩
  · exact h.elim
theorem bi_sum (hK : X.K = P.K) (hc : X.calm = true) : CallR X (.builtin "sum") (biL P .sum) := by
  intro pins s σ H xs us Q I r h
  obtain ⟨g, Q', A, ⟨a, ns, rfl, l, q⟩, i⟩ := h
  have z := A.ls l
  rw [← hK] at z
  exact cr_sum hc pins s σ H _ us Q I r ⟨_, ns, rfl, z, i _ _ _ q A⟩
theorem bi_all (hK : X.K = P.K) (hc : X.calm = true) : CallR X (.builtin "all") (biL P .all) := by
  intro pins s σ H xs us Q I r h
  obtain ⟨g, Q', A, ⟨a, ns, rfl, l, q⟩, i⟩ := h
  have z := A.ls l
  rw [← hK] at z
  exact cr_all hc pins s σ H _ us Q I r ⟨_, ns, rfl, z, i _ _ _ q A⟩
theorem bi_int : CallR X (.type "int") (biL P .int) := by
  intro pins s σ H xs us Q I r h
  obtain ⟨g, Q', A, h, i⟩ := h
  unfold biV at h
  simp only at h
  split at h
  · exact call_int1 pins s σ H _ us Q I r (.inr ⟨_, rfl, i _ _ _ h A⟩)
  · obtain ⟨n, e, hl, q⟩ := h
    exact call_int_str pins s σ H _ us Q I r ⟨_, n, rfl, e, hl, i _ _ _ q A⟩
  · exact h.elim
theorem bi_str : CallR X (.type "str") (biL P .str) := by
  intro pins s σ H xs us Q I r h
  obtain ⟨g, Q', A, h, i⟩ := h
  unfold biV at h
  simp only at h
  split at h
  · exact call_str_int pins s σ H _ us Q I r ⟨_, rfl, h.1, i _ _ _ h.2 A⟩
  · exact h.elim
theorem bi_list (hK : X.K = P.K) : CallR X (.type "list") (biL P .list) := by
  intro pins s σ H xs us Q I r h
  obtain ⟨g, Q', A, ⟨a, ys, rfl, l, q⟩, i⟩ := h
  refine call_list_of pins s σ H _ us Q I r ⟨_, ys, rfl, ?_, fun p np => i _ _ _ (q p (A.fresh np)) (A.newL np)⟩
  rw [hK]
  rcases l with l | l
  · exact .inl (A.ls l)
  · exact .inr (A.tp l)
theorem bi_dict : CallR X (.type "dict") (biL P .dict) := by
  intro pins s σ H xs us Q I r h
  obtain ⟨g, Q', A, ⟨a, kvs, rfl, e, q⟩, i⟩ := h
  exact call_dictD pins s σ H _ us Q I r ⟨_, kvs, rfl, .inl (A.dK e), fun p np => i _ _ _ (q p (A.fresh np)) (A.newK np)⟩
/-- isinstance(x, T): the value and the built-in class -/
def isL (P : Prm) (f : Bi) (T : String) : List V → Hp → VK → Prop := fun xs H Q => ∃ x, xs = [x, .ty T] ∧ Lo P (biV P.kl f [x]) H Q
theorem bi_isi (hK : X.K = P.K) {f : Bi} {T : String} (hf : (f, T) ∈ [(Bi.isint, "int"), (Bi.isbool, "bool"), (Bi.isstr, "str"), (Bi.istuple, "tuple"), (Bi.islist, "list")]) : CallR X (.builtin "isinstance") (isL P f T) := by
  intro pins s σ H xs us Q I r h
  obtain ⟨x, rfl, g, Q', A, h, i⟩ := h
  have one : ∀ (t : String) (b : Bool), TyX X.K H x (.type t) → kitB t T = some b → Q (.bl b) H → wpAny (model X.prog X.w) X.A (call (.builtin "isinstance") us) (EP X pins σ Q) X.xe s := fun t b h1 h2 q =>
    call_isi pins s σ H _ us Q I r ⟨x, .ty T, .type t, .type T, b, rfl, .ty T, h1, kit_ty h2, q⟩
  simp only [List.mem_cons, Prod.mk.injEq, List.not_mem_nil, or_false] at hf
  rcases hf with ⟨rfl, rfl⟩ | ⟨rfl, rfl⟩ | ⟨rfl, rfl⟩ | ⟨rfl, rfl⟩ | ⟨rfl, rfl⟩ <;> unfold biV at h <;> simp only at h <;> split at h <;> rename_i hx <;> first
    | exact h.elim
    | (cases hx
       first
         | exact one "int" _ (.base (.int _)) (by decide +kernel) (i _ _ _ h A)
         | exact one "bool" _ (.base (.bl _)) (by decide +kernel) (i _ _ _ h A)
         | exact one "str" _ (.base (.str _)) (by decide +kernel) (i _ _ _ h A)
         | exact one "NoneType" _ (.base .non) (by decide +kernel) (i _ _ _ h A)
         | exact one "tuple" _ (.base (.tup (A.tup h.choose_spec.1))) (by decide +kernel) (i _ _ _ h.choose_spec.2 A)
         | exact one "list" _ (.base (.lst (A.lst h.choose_spec.1))) (by decide +kernel) (i _ _ _ h.choose_spec.2 A))
end
end SW
end

section
set_option Elab.async false
set_option linter.all false
set_option maxRecDepth 100000
set_option maxHeartbeats 4000000
namespace SW
open PySem PySem.Spec PyProof.Rows L2
abbrev RE (P : Prm) (c : Cal) (t : T) : TE := fun σ H Q => Lo P (fun g Q' => t c σ g Q') H Q
abbrev RB (P : Prm) (c : Cal) (t : TB) : TT := fun σ H Q => Lo P (fun g Q' => t c σ g Q') H Q
abbrev RL (P : Prm) (c : Cal) (t : TLs) : TA := fun σ H Q => Lo P (fun g Q' => t c σ g Q') H Q
section
variable {P : Prm} {X : Cx} {c : Cal} {e a b o i : Expr} {es : List Expr} {ta tb te : T} {tl : TLs} {pos : Pos}
theorem g_var {i : Nat} {x : Str} (hN : X.N[i]? = some x) (hv : Vis X.env.scope x) (hd : (x == ("__debug__" : Str)) = false) (hcd : (x == ("__classdict__" : Str)) = false) : PE X (.Name x pos) (RE P c (eV i)) :=
  PE.imp (pe_var hN hv hd hcd) fun σ H Q ⟨g, Q', A, ⟨v, e, q⟩, i⟩ => ⟨v, e, i _ _ _ q A⟩
theorem g_c {v : V} (h : PE X e (tC v)) : PE X e (RE P c (eC v)) := PE.imp h fun σ H Q ⟨g, Q', A, q, i⟩ => i _ _ _ q A
theorem op_bin' (hK : X.K = P.K) (hk : c.kl = P.kl) {op : Operator} : OpR X (binaryOp op) (fun x y H Q => Lo P (binV c.kl op x y) H Q) := by
  rw [hk]
  exact op_bin hK
def cmpC (P : Prm) (c : Cal) (op : CmpOp) (x y : V) : Hp → VK → Prop := fun H Q => Lo P (fun g Q' => cmpV c.kl op x y g fun k g3 => Q' (.bl k) g3) H Q
theorem op_cmp' (hK : X.K = P.K) (hk : c.kl = P.kl) (hu : X.A.units + 64 < cLine) {op : CmpOp} : OpR X (compareOp op) (cmpC P c op) := by
  have e : cmpC P c op = cmpL P op := by
    funext x y H Q
    unfold cmpC cmpL
    rw [hk]
  rw [e]
  exact op_cmp hK hu
theorem g_bin (hK : X.K = P.K) (hk : c.kl = P.kl) {op : Operator} (ha : PE X a (RE P c ta)) (hb : PE X b (RE P c tb)) : PE X (.BinOp a op b pos) (RE P c (eBin op ta tb)) := by
  refine PE.imp (pe_op (op_bin' hK hk) ha hb) fun σ H Q ⟨g, Q', A, h, i⟩ => ?_
  exact ⟨g, _, A, h, fun x g1 H1 q A1 => ⟨g1, _, A1, q, fun y g2 H2 q2 A2 => ⟨g2, Q', A2, q2, i⟩⟩⟩
theorem g_neg (ha : PE X a (RE P c ta)) : PE X (.UnaryOp .USub a pos) (RE P c (eNeg ta)) := by
  refine PE.imp (pe_un un_neg ha) fun σ H Q ⟨g, Q', A, h, i⟩ => ?_
  exact ⟨g, _, A, h, fun x g1 H1 ⟨j, e, q⟩ A1 => ⟨j, e, i _ _ _ q A1⟩⟩
theorem g_cmp (hK : X.K = P.K) (hk : c.kl = P.kl) (hu : X.A.units + 64 < cLine) {op : CmpOp} (ha : PE X a (RE P c ta)) (hb : PE X b (RE P c tb)) (hm : behindInMarks op b = false) : PE X (.Compare a [op] [b] pos) (RE P c (eCmp op ta tb)) :=
  PE.imp (pe_cmpR (op_cmp' hK hk hu) ha hb hm) fun σ H Q ⟨g, Q', A, h, i⟩ => ⟨g, _, A, h, fun x g1 H1 q A1 => ⟨g1, _, A1, q, fun y g2 H2 q2 A2 => ⟨g2, Q', A2, q2, i⟩⟩⟩
theorem gt_cmp (hK : X.K = P.K) (hk : c.kl = P.kl) (hu : X.A.units + 64 < cLine) {op : CmpOp} (ha : PE X a (RE P c ta)) (hb : PE X b (RE P c tb)) (hm : behindInMarks op b = false) : PT X (.Compare a [op] [b] pos) (RB P c (tBl (eCmp op ta tb))) :=
  PT.imp (pt_cmpR (op_cmp' hK hk hu) ha hb hm) fun σ H Q ⟨g, Q', A, h, i⟩ => ⟨g, _, A, h, fun x g1 H1 q A1 => ⟨g1, _, A1, q, fun y g2 H2 q2 A2 => ⟨g2, fun z g3 => ∃ k, z = .bl k ∧ Q' k g3, A2, q2, fun z g3 H3 ⟨k, e, q3⟩ A3 => ⟨k, e, i _ _ _ q3 A3⟩⟩⟩⟩
/-! chains -/
inductive Chn (X : Cx) (P : Prm) (c : Cal) : List CmpOp → List Expr → List (CmpOp × T) → Prop
  | one {op b tb} : PE X b (RE P c tb) → Chn X P c [op] [b] [(op, tb)]
  | more {op b tb op' ops e es r} : PE X b (RE P c tb) → Chn X P c (op' :: ops) (e :: es) r → Chn X P c (op :: op' :: ops) (b :: e :: es) ((op, tb) :: r)
theorem Chn.ne {ops : List CmpOp} {es : List Expr} {r : List (CmpOp × T)} (h : Chn X P c ops es r) : r ≠ [] := by cases h <;> simp
theorem cmp_bl {kl : Addr → List V → Prop} {op : CmpOp} {x y : V} {g : G} {K : Bool → G → Prop} (h : cmpV kl op x y g K) : cmpV kl op x y g fun k g3 => ∃ k', V.bl k = .bl k' ∧ K k' g3 := by
  have e : (fun (k : Bool) (g3 : G) => ∃ k', V.bl k = .bl k' ∧ K k' g3) = K := by
    funext k g3
    refine propext ⟨?_, fun z => ⟨k, rfl, z⟩⟩
    rintro ⟨k', e, z⟩
    cases e
    exact z
  rw [e]
  exact h
theorem chain_ok (hK : X.K = P.K) (hk : c.kl = P.kl) (hu : X.A.units + 64 < cLine) {ops : List CmpOp} {es : List Expr} {r : List (CmpOp × T)} (h : Chn X P c ops es r) :
    ∀ (x : V) (v : Value) (pins : List (Addr × Obj)) (s : Shared) (σ : L2.St) (H : Hp) (Q : VK), Inv X pins σ H s → RelV x v → Lo P (fun g Q' => chn r x c σ g Q') H Q →
      wpAny (model X.prog X.w) X.A (compareChain pos v ops (evalEach es X.env)) (EP X pins σ Q) X.xe s := by
  induction h with
  | one hb =>
    intro x v pins s σ H Q I rx q
    obtain ⟨g, Q', A, h, i⟩ := q
    refine chain_last (thn (hb.run pins s σ H (fun y H1 => cmpC P c _ x y H1 Q) I ⟨g, _, A, h, fun y g2 H2 q2 A2 => ⟨g2, Q', A2, q2, i⟩⟩) fun u s1 ⟨y, H1, I1, ry, q1⟩ => ?_)
    exact op_cmp' hK hk hu pins s1 σ H1 x y v u Q I1 rx ry q1
  | @more op b tb op' ops e es r hb hr ih =>
    intro x v pins s σ H Q I rx q
    obtain ⟨p, r', rfl⟩ : ∃ p r', r = p :: r' := by
      cases r with
      | nil => exact absurd rfl hr.ne
      | cons p r' => exact ⟨p, r', rfl⟩
    obtain ⟨g, Q', A, h, i⟩ := q
    refine chain_link (thn (hb.run pins s σ H (fun y H1 => cmpC P c op x y H1 fun z H2 => ∃ k, z = .bl k ∧ Lo P (fun g Q' => if k = true then chn (p :: r') y c σ g Q' else Q' (.bl false) g) H2 Q) I
      ⟨g, _, A, h, fun y g2 H2 q2 A2 => ?_⟩) fun u s1 ⟨y, H1, I1, ry, q1⟩ => ?_)
    · exact ⟨g2, fun z g3 => ∃ k, z = .bl k ∧ if k = true then chn (p :: r') y c σ g3 Q' else Q' (.bl false) g3, A2, cmp_bl q2, fun z g3 H3 ⟨k, e, q3⟩ A3 => ⟨k, e, g3, Q', A3, q3, i⟩⟩
    refine thn (op_cmp' hK hk hu pins s1 σ H1 x y v u _ I1 rx ry q1) fun d s3 ⟨z, H3, I3, r3, k, e, q3⟩ => ?_
    subst e
    cases r3
    refine wpAny_truthy_bool ?_
    cases k with
    | false =>
      obtain ⟨g, Q', A, h, i⟩ := q3
      exact ite_ff ⟨.bl false, H3, I3, rfl, i _ _ _ h A⟩
    | true => exact ite_tt (ih y u pins s3 σ H3 Q I3 ry q3)
theorem testChain_ok (hK : X.K = P.K) (hk : c.kl = P.kl) (hu : X.A.units + 64 < cLine) {ops : List CmpOp} {es : List Expr} {r : List (CmpOp × T)} (h : Chn X P c ops es r) :
    ∀ (x : V) (v : Value) (pins : List (Addr × Obj)) (s : Shared) (σ : L2.St) (H : Hp) (Q : Bool → Hp → Prop), Inv X pins σ H s → RelV x v → Lo P (fun g Q' => chn r x c σ g Q') H (fun z H' => ∃ k, z = .bl k ∧ Q k H') →
      wpAny (model X.prog X.w) X.A (testChain pos v ops (evalEach es X.env)) (TP X pins σ Q) X.xe s := by
  induction h with
  | one hb =>
    intro x v pins s σ H Q I rx q
    obtain ⟨g, Q', A, h, i⟩ := q
    refine test_last (thn (hb.run pins s σ H (fun y H1 => cmpC P c _ x y H1 fun z H' => ∃ k, z = .bl k ∧ Q k H') I ⟨g, _, A, h, fun y g2 H2 q2 A2 => ⟨g2, Q', A2, q2, i⟩⟩) fun u s1 ⟨y, H1, I1, ry, q1⟩ => ?_)
    refine thn (op_cmp' hK hk hu pins s1 σ H1 x y v u _ I1 rx ry q1) fun d s3 ⟨z, H3, I3, r3, k, e, q3⟩ => ?_
    subst e
    cases r3
    exact wpAny_truthy_bool ⟨H3, I3, q3⟩
  | @more op b tb op' ops e es r hb hr ih =>
    intro x v pins s σ H Q I rx q
    obtain ⟨p, r', rfl⟩ : ∃ p r', r = p :: r' := by
      cases r with
      | nil => exact absurd rfl hr.ne
      | cons p r' => exact ⟨p, r', rfl⟩
    obtain ⟨g, Q', A, h, i⟩ := q
    refine test_link (thn (hb.run pins s σ H (fun y H1 => cmpC P c op x y H1 fun z H2 => ∃ k, z = .bl k ∧ Lo P (fun g Q' => if k = true then chn (p :: r') y c σ g Q' else Q' (.bl false) g) H2 (fun z H' => ∃ k, z = .bl k ∧ Q k H')) I
      ⟨g, _, A, h, fun y g2 H2 q2 A2 => ?_⟩) fun u s1 ⟨y, H1, I1, ry, q1⟩ => ?_)
    · exact ⟨g2, fun z g3 => ∃ k, z = .bl k ∧ if k = true then chn (p :: r') y c σ g3 Q' else Q' (.bl false) g3, A2, cmp_bl q2, fun z g3 H3 ⟨k, e, q3⟩ A3 => ⟨k, e, g3, Q', A3, q3, i⟩⟩
    refine thn (op_cmp' hK hk hu pins s1 σ H1 x y v u _ I1 rx ry q1) fun d s3 ⟨z, H3, I3, r3, k, e, q3⟩ => ?_
    subst e
    cases r3
    refine wpAny_truthy_bool ?_
    cases k with
    | false =>
      obtain ⟨g, Q', A, h, i⟩ := q3
      obtain ⟨k, e, q4⟩ := i _ _ _ h A
      cases e
      exact ite_ff ⟨H3, I3, q4⟩
    | true => exact ite_tt (ih y u pins s3 σ H3 Q I3 ry q3)
theorem g_chn (hK : X.K = P.K) (hk : c.kl = P.kl) (hu : X.A.units + 64 < cLine) {op op' : CmpOp} {ops : List CmpOp} {b b' : Expr} {es : List Expr} {r : List (CmpOp × T)} (ha : PE X a (RE P c ta)) (h : Chn X P c (op :: op' :: ops) (b :: b' :: es) r) (hm : lastMarks (op :: op' :: ops) (b :: b' :: es) = false) :
    PE X (.Compare a (op :: op' :: ops) (b :: b' :: es) pos) (RE P c (eChn ta r)) := by
  refine ⟨fun pins s σ H Q I ⟨g, Q', A, h', i⟩ => ?_⟩
  refine Compare_chain (thn (ha.run pins s σ H (fun x H1 => Lo P (fun g Q' => chn r x c σ g Q') H1 Q) I ⟨g, _, A, h', fun x g1 H1 q A1 => ⟨g1, Q', A1, q, i⟩⟩) fun v s1 ⟨x, H1, I1, r1, q1⟩ => ?_) hm
  exact chain_ok hK hk hu h x v pins s1 σ H1 Q I1 r1 q1
theorem gt_chn (hK : X.K = P.K) (hk : c.kl = P.kl) (hu : X.A.units + 64 < cLine) {op op' : CmpOp} {ops : List CmpOp} {b b' : Expr} {es : List Expr} {r : List (CmpOp × T)} (ha : PE X a (RE P c ta)) (h : Chn X P c (op :: op' :: ops) (b :: b' :: es) r) (hm : lastMarks (op :: op' :: ops) (b :: b' :: es) = false) :
    PT X (.Compare a (op :: op' :: ops) (b :: b' :: es) pos) (RB P c (tBl (eChn ta r))) := by
  refine ⟨fun pins s σ H Q I ⟨g, Q', A, h', i⟩ => ?_⟩
  refine isTrue_chain (thn (ha.run pins s σ H (fun x H1 => Lo P (fun g Q' => chn r x c σ g Q') H1 (fun z H' => ∃ k, z = .bl k ∧ Q k H')) I ⟨g, _, A, h', fun x g1 H1 q A1 => ⟨g1, _, A1, q, fun z g2 H2 ⟨k, e, q2⟩ A2 => ⟨k, e, i _ _ _ q2 A2⟩⟩⟩) fun v s1 ⟨x, H1, I1, r1, q1⟩ => ?_) hm
  exact testChain_ok hK hk hu h x v pins s1 σ H1 Q I1 r1 q1
/-! and, or, not -/
theorem tru_G' (hK : X.K = P.K) (hk : c.kl = P.kl) : TruR X (fun x H Q => Lo P (truV c.kl x) H Q) := by
  rw [hk]
  exact tru_G hK
theorem g_and {rest : List Expr} (hK : X.K = P.K) (hk : c.kl = P.kl) (ha : PE X a (RE P c ta)) (hb : PE X (.BoolOp .And (b :: rest) pos) (RE P c tb)) : PE X (.BoolOp .And (a :: b :: rest) pos) (RE P c (eAnd ta tb)) := by
  refine ⟨fun pins s σ H Q I ⟨g, Q', A, h, i⟩ => ?_⟩
  refine BoolOp_and (thn (ha.run pins s σ H (fun x H1 => Lo P (truV c.kl x) H1 fun k H2 => Lo P (fun g Q' => if k = true then tb c σ g Q' else Q' x g) H2 Q) I ⟨g, _, A, h, fun x g1 H1 q A1 => ⟨g1, _, A1, q, fun k g2 H2 q2 A2 => ⟨g2, Q', A2, q2, i⟩⟩⟩) fun v s1 ⟨x, H1, I1, r1, q1⟩ => ?_)
  refine thn (tru_G' hK hk pins s1 σ H1 x v _ I1 r1 q1) fun d s2 ⟨H2, I2, q2⟩ => ?_
  cases d with
  | true => exact hb.run pins s2 σ H2 Q I2 q2
  | false =>
    obtain ⟨g, Q', A, h, i⟩ := q2
    exact ⟨x, H2, I2, r1, i _ _ _ h A⟩
theorem g_or {rest : List Expr} (hK : X.K = P.K) (hk : c.kl = P.kl) (ha : PE X a (RE P c ta)) (hb : PE X (.BoolOp .Or (b :: rest) pos) (RE P c tb)) : PE X (.BoolOp .Or (a :: b :: rest) pos) (RE P c (eOr ta tb)) := by
  refine ⟨fun pins s σ H Q I ⟨g, Q', A, h, i⟩ => ?_⟩
  refine BoolOp_or (thn (ha.run pins s σ H (fun x H1 => Lo P (truV c.kl x) H1 fun k H2 => Lo P (fun g Q' => if k = true then Q' x g else tb c σ g Q') H2 Q) I ⟨g, _, A, h, fun x g1 H1 q A1 => ⟨g1, _, A1, q, fun k g2 H2 q2 A2 => ⟨g2, Q', A2, q2, i⟩⟩⟩) fun v s1 ⟨x, H1, I1, r1, q1⟩ => ?_)
  refine thn (tru_G' hK hk pins s1 σ H1 x v _ I1 r1 q1) fun d s2 ⟨H2, I2, q2⟩ => ?_
  cases d with
  | false => exact hb.run pins s2 σ H2 Q I2 q2
  | true =>
    obtain ⟨g, Q', A, h, i⟩ := q2
    exact ⟨x, H2, I2, r1, i _ _ _ h A⟩
theorem g_not (hK : X.K = P.K) (hk : c.kl = P.kl) (ha : PE X a (RE P c ta)) : PE X (.UnaryOp .Not a pos) (RE P c (eNot ta)) := by
  refine ⟨fun pins s σ H Q I ⟨g, Q', A, h, i⟩ => ?_⟩
  refine UnaryOp_ (thn (ha.run pins s σ H (fun x H1 => Lo P (truV c.kl x) H1 fun k H2 => Q (.bl (!k)) H2) I ⟨g, _, A, h, fun x g1 H1 q A1 => ⟨g1, _, A1, q, fun k g2 H2 q2 A2 => i _ _ _ q2 A2⟩⟩) fun v s1 ⟨x, H1, I1, r1, q1⟩ => ?_)
  exact not_of (thn (tru_G' hK hk pins s1 σ H1 x v _ I1 r1 q1) fun d s2 ⟨H2, I2, q2⟩ => ⟨.bl (!d), H2, I2, rfl, q2⟩)
variable {tA tB : TB}
theorem gt_val (hK : X.K = P.K) (hk : c.kl = P.kl) (ha : PE X a (RE P c ta)) (he : ∀ whole, isTrue a X.env whole = (do let v ← whole; standAt a.pos; holding [v] (truthy v))) : PT X a (RB P c (tVal ta)) := by
  refine ⟨fun pins s σ H Q I ⟨g, Q', A, h, i⟩ => isTrue_plain (thn (ha.run pins s σ H (fun x H1 => Lo P (truV c.kl x) H1 Q) I ⟨g, _, A, h, fun x g1 H1 q A1 => ⟨g1, Q', A1, q, i⟩⟩) fun v s1 ⟨x, H1, I1, rx, q1⟩ => ?_) (he _)⟩
  exact tru_G' hK hk pins s1 σ H1 x v _ I1 rx q1
theorem gt_not (ha : PT X a (RB P c tA)) : PT X (.UnaryOp .Not a pos) (RB P c (tNot tA)) := by
  refine PT.imp (pt_not ha) fun σ H Q h => ?_
  obtain ⟨g, Q', A, h, i⟩ := h
  exact ⟨g, _, A, h, fun k g' H' q A' => i _ _ _ q A'⟩
theorem gw_and1 (ha : PT X a (RB P c tA)) : PW X (.BoolOp .And [a] pos) (RB P c tA) := pw_and1 ha
theorem gw_or1 (ha : PT X a (RB P c tA)) : PW X (.BoolOp .Or [a] pos) (RB P c tA) := pw_or1 ha
theorem PW.imp {t t' : TT} (h : PW X e t) (i : ∀ σ H Q, t' σ H Q → t σ H Q) : PW X e t' := ⟨fun w pins s σ H Q I q => h.run w pins s σ H Q I (i σ H Q q)⟩
theorem gw_and {rest : List Expr} (ha : PT X a (RB P c tA)) (hb : PW X (.BoolOp .And (b :: rest) pos) (RB P c tB)) : PW X (.BoolOp .And (a :: b :: rest) pos) (RB P c (tAnd tA tB)) := by
  refine PW.imp (pw_and ha hb) fun σ H Q ⟨g, Q', A, h, i⟩ => ?_
  refine ⟨g, _, A, h, fun k g1 H1 q A1 => ?_⟩
  cases k with
  | true => exact ⟨g1, Q', A1, q, i⟩
  | false => exact i _ _ _ q A1
theorem gw_or {rest : List Expr} (ha : PT X a (RB P c tA)) (hb : PW X (.BoolOp .Or (b :: rest) pos) (RB P c tB)) : PW X (.BoolOp .Or (a :: b :: rest) pos) (RB P c (tOr tA tB)) := by
  refine PW.imp (pw_or ha hb) fun σ H Q ⟨g, Q', A, h, i⟩ => ?_
  refine ⟨g, _, A, h, fun k g1 H1 q A1 => ?_⟩
  cases k with
  | false => exact ⟨g1, Q', A1, q, i⟩
  | true => exact i _ _ _ q A1
/-! lists of arguments, displays -/
theorem g_nil : PA X [] (RL P c lNil) := PA.imp pa_nil fun σ H Q ⟨g, Q', A, h, i⟩ => i _ _ _ h A
theorem g_cons (ha : PE X e (RE P c te)) (hr : PA X es (RL P c tl)) (hs : starEach (e :: es) X.env = (false, eval e X.env) :: starEach es X.env) : PA X (e :: es) (RL P c (lCons te tl)) := by
  refine PA.imp (pa_cons ha hr hs) fun σ H Q ⟨g, Q', A, h, i⟩ => ?_
  exact ⟨g, _, A, h, fun x g1 H1 q A1 => ⟨g1, _, A1, q, fun xs g2 H2 q2 A2 => i _ _ _ q2 A2⟩⟩
theorem g_tup {x1} (h : PA X es (RL P c tl)) : PE X (.Tuple es x1 pos) (RE P c (eTup tl)) := by
  refine PE.imp (pe_tup h) fun σ H Q ⟨g, Q', A, h, i⟩ => ?_
  exact ⟨g, _, A, h, fun xs g1 H1 q A1 => ⟨q.1, fun p np => i _ _ _ (q.2 p (A1.fresh np)) (A1.newU np)⟩⟩
theorem g_lst (h : PA X es (RL P c tl)) : PE X (.List es pos) (RE P c (eLst tl)) := by
  refine PE.imp (pe_lst h) fun σ H Q ⟨g, Q', A, h, i⟩ => ?_
  exact ⟨g, _, A, h, fun xs g1 H1 q A1 => ⟨q.1, fun p np => i _ _ _ (q.2 p (A1.fresh np)) (A1.newL np)⟩⟩
theorem PE.or {t t' : TE} (h : PE X e t) (h' : PE X e t') : PE X e (fun σ H Q => t σ H Q ∨ t' σ H Q) := ⟨fun pins s σ H Q I q => q.elim (h.run pins s σ H Q I) (h'.run pins s σ H Q I)⟩
theorem g_dict0 : PE X (.Dict [] [] pos) (RE P c eDict0) := by
  refine PE.imp (PE.or pe_dnewK pe_dnewT) fun σ H Q h => ?_
  obtain ⟨g, Q', A, h, i⟩ := h
  rcases h with h | h
  · exact .inl fun p np => i _ _ _ (h p (A.fresh np)) (A.newK np)
  · exact .inr fun p np => i _ _ _ (h p (A.fresh np)) (A.newT np)
def liftP (P : Prm) (c : Cal) (trs : List (T × T)) : List (TE × TE) := trs.map fun p => (RE P c p.1, RE P c p.2)
theorem lift_pairs {σ : L2.St} : ∀ {trs : List (T × T)} {g : G} {H : Hp} {Q' : List (V × V) → G → Prop} {Q : List (V × V) → Hp → Prop}, Ab P g H → dPairs trs c σ g Q' → (∀ ps g' H', Q' ps g' → Ab P g' H' → Q ps H') → tPairs (liftP P c trs) σ H Q
  | [], g, H, Q', Q, A, h, i => i _ _ _ h A
  | (tk, tv) :: r, g, H, Q', Q, A, h, i => ⟨g, _, A, h, fun x g1 H1 q A1 => ⟨g1, _, A1, q, fun y g2 H2 q2 A2 => lift_pairs A2 q2 fun ps g3 H3 q3 A3 => i _ _ _ q3 A3⟩⟩
theorem g_disp {keys : List (Option Expr)} {values : List Expr} {trs : List (T × T)} (h : PPs X pos keys values (liftP P c trs)) (hall : keys.all (·.isSome) = true) (hl : keys.length = values.length) (h0 : keys ≠ []) (h15 : keys.length ≤ 15) :
    PE X (.Dict keys values pos) (RE P c (eDisp trs)) := by
  refine PE.imp (pe_disp h hall hl h0 h15) fun σ H Q h => ?_
  obtain ⟨g, Q', A, h, i⟩ := h
  intro p np
  refine lift_pairs (A.newK np) (h p (A.fresh np)) fun ps g2 H2 q A2 => ?_
  obtain ⟨e, kvs, e1, e2, q⟩ := q
  exact ⟨A2.dK e, kvs, e1, e2, i _ _ _ q (A2.setK e)⟩
/-! subscripts -/
theorem ix_dict (hu : X.A.units + 1 < cLine) : IxR X (fun x y H Q => ∃ a v, x = .ref a ∧ DGet H a y (some v) ∧ Q v H) := by
  intro value slice pins s σ H x y v u Q I rx ry h hs
  obtain ⟨a, z, rfl, d, q⟩ := h
  cases rx
  unfold subscriptTail
  have hT := dict_typeIs I d
  refine wpAny_bind ?_
  rw [getitemInPython_of_ne hT.not_modules]
  refine wpAny_bind (wpAny_specialOf hT PySem.F.slot_dict_getitem.lookup ?_)
  have fin : wpAny (model X.prog X.w) X.A (subscripted slice false (.ref a) u) (fun r s₃ => wpAny (model X.prog X.w) X.A (letTemporaryGo value (.ref a) r >>= fun _ => pure r) (EP X pins σ Q) X.xe s₃) X.xe s := by
    rw [hs]
    exact wpAny_operating (wpAny_mono (d_getItem (Q := EP X pins σ Q) hu I d ry fun w' s3 I3 rw' => ⟨z, H, I3, rw', q⟩) (fun r s₃ h₃ => wpAny_bind (wpAny_letTemporaryGo (wpAny_pure h₃))) fun _ _ x => x)
  first
    | exact wpAny_pure (wpAny_bind fin)
    | exact wpAny_bind (wpAny_pure (wpAny_bind fin))
    | exact wpAny_bind fin
theorem g_ix (hK : X.K = P.K) (hk : c.kl = P.kl) (hu : X.A.units + 1 < cLine) (ha : PE X a (RE P c ta)) (hb : PE X b (RE P c tb)) (hs : PlainIx b) : PE X (.Subscript a b pos) (RE P c (eIx ta tb)) := by
  refine PE.imp (pe_ix (ix_seq.or (ix_dict hu)) ha hb hs) fun σ H Q ⟨g, Q', A, h, i4⟩ => ?_
  refine ⟨g, _, A, h, fun x g1 H1 q A1 => ⟨g1, _, A1, q, fun y g2 H2 h4 A4 => ?_⟩⟩
  unfold ixV at h4
  split at h4
  · obtain ⟨i, c, rfl, z, e, q⟩ := h4
    exact .inl (.inr (.inr ⟨_, i, c, rfl, rfl, z, e, i4 _ _ _ q A4⟩))
  · rcases h4 with ⟨xs, i, v, rfl, l | l, e, q⟩ | ⟨v, d, q⟩
    · rw [hk] at l
      have z := A4.ls l
      rw [← hK] at z
      exact .inl (.inl ⟨_, xs, i, v, rfl, rfl, z, e, i4 _ _ _ q A4⟩)
    · have z := A4.tp l
      rw [← hK] at z
      exact .inl (.inr (.inl ⟨_, xs, i, v, rfl, rfl, z, e, i4 _ _ _ q A4⟩))
    · exact .inr ⟨_, v, rfl, A4.dget d, i4 _ _ _ q A4⟩
  · exact h4.elim
abbrev RO (P : Prm) (c : Cal) (t : Cal → L2.St → G → (Option Int → G → Prop) → Prop) : TO := fun σ H Q => Lo P (fun g Q' => t c σ g Q') H Q
theorem PO.imp {e : Option Expr} {t t' : TO} (h : PO X e t) (i : ∀ σ H Q, t' σ H Q → t σ H Q) : PO X e t' := ⟨fun pins s σ H Q I q => h.run pins s σ H Q I (i σ H Q q)⟩
theorem g_onone : PO X none (RO P c oNone) := PO.imp po_none fun σ H Q ⟨g, Q', A, h, i⟩ => i _ _ _ h A
theorem g_osome (h : PE X e (RE P c te)) : PO X (some e) (RO P c (oSome te)) := by
  refine PO.imp (po_some h) fun σ H Q ⟨g, Q', A, h, i⟩ => ?_
  exact ⟨g, _, A, h, fun x g1 H1 ⟨j, e, q⟩ A1 => ⟨j, e, i _ _ _ q A1⟩⟩
theorem sl_G' (hK : X.K = P.K) (hk : c.kl = P.kl) : SlR X (fun x lo hi H Q => Lo P (slV c.kl x lo hi) H Q) := by
  rw [hk]
  exact sl_G hK
theorem g_sl (hK : X.K = P.K) (hk : c.kl = P.kl) {lo hi : Option Expr} {tl th : Cal → L2.St → G → (Option Int → G → Prop) → Prop} {p2 : Pos} (ha : PE X a (RE P c ta)) (hl : PO X lo (RO P c tl)) (hh : PO X hi (RO P c th)) : PE X (.Subscript a (.Slice lo hi none p2) pos) (RE P c (eSl ta tl th)) := by
  refine PE.imp (pe_slice (sl_G' hK hk) ha hl hh) fun σ H Q ⟨g, Q', A, h, i⟩ => ?_
  exact ⟨g, _, A, h, fun x g1 H1 q A1 => ⟨g1, _, A1, q, fun l g2 H2 q2 A2 => ⟨g2, _, A2, q2, fun u g3 H3 q3 A3 => ⟨g3, Q', A3, q3, i⟩⟩⟩⟩
end
end SW
end

section
set_option Elab.async false
set_option linter.all false
set_option maxRecDepth 100000
set_option maxHeartbeats 4000000
namespace SW
open PySem PySem.Spec PyProof.Rows L2
/-! ### attributes -/
theorem an_inj : ∀ i < 21, ∀ j < 21, anOf i = anOf j → i = j := by decide +kernel
theorem at_lt : ∀ (c : Nat) (i : Nat), i ∈ atOf c → i < 21
  | 0, i, h => by simp [atOf] at h; omega
  | 1, i, h => by simp [atOf] at h; omega
  | 2, i, h => by simp [atOf] at h; omega
  | 3, i, h => by simp [atOf] at h; omega
  | 4, i, h => by simp [atOf] at h; omega
  | 5, i, h => by simp [atOf] at h; omega
  | n + 6, i, h => by simp [atOf] at h
theorem nmF_lookup {f : Nat} (hf : f < 21) : ∀ (fs : List (Nat × V)), (∀ p ∈ fs, p.1 < 21) → (nmF fs).lookup (anOf f) = fs.lookup f
  | [], _ => rfl
  | (i, v) :: r, h => by
    have ih := nmF_lookup hf r fun p hp => h p (List.mem_cons_of_mem _ hp)
    have hi : i < 21 := h (i, v) List.mem_cons_self
    show List.lookup (anOf f) ((anOf i, v) :: nmF r) = List.lookup f ((i, v) :: r)
    rw [List.lookup_cons, List.lookup_cons]
    by_cases e : f = i
    · subst e; simp
    · have e2 : (anOf f == anOf i) = false := beq_eq_false_iff_ne.mpr fun z => e (an_inj f hf i hi z)
      have e3 : (f == i) = false := beq_eq_false_iff_ne.mpr e
      rw [e2, e3]
      exact ih
theorem nmF_put {f : Nat} {v : V} (hf : f < 21) : ∀ (fs : List (Nat × V)), (∀ p ∈ fs, p.1 < 21) → nmF (putN f v fs) = putF (anOf f) v (nmF fs)
  | [], _ => rfl
  | (i, x) :: r, h => by
    have ih := nmF_put (v := v) hf r fun p hp => h p (List.mem_cons_of_mem _ hp)
    have hi : i < 21 := h (i, x) List.mem_cons_self
    show nmF (if i = f then (i, v) :: r else (i, x) :: putN f v r) = (if anOf i = anOf f then (anOf i, v) :: nmF r else (anOf i, x) :: putF (anOf f) v (nmF r))
    by_cases e : i = f
    · subst e; rw [if_pos rfl, if_pos rfl]; rfl
    · rw [if_neg e, if_neg fun z => e (an_inj i hi f hf z), ← ih]; rfl
theorem putN_mem {f : Nat} {v : V} {L : List Nat} (hf : f ∈ L) : ∀ {fs : List (Nat × V)}, (∀ p ∈ fs, p.1 ∈ L) → ∀ p ∈ putN f v fs, p.1 ∈ L
  | [], _, p, hp => by
    simp only [putN, List.mem_cons, List.not_mem_nil, or_false] at hp
    rw [hp]; exact hf
  | (i, x) :: r, h, p, hp => by
    unfold putN at hp
    split at hp
    · rcases List.mem_cons.mp hp with rfl | hp
      · exact h (i, x) List.mem_cons_self
      · exact h p (List.mem_cons_of_mem _ hp)
    · rcases List.mem_cons.mp hp with rfl | hp
      · exact h (i, x) List.mem_cons_self
      · exact putN_mem hf (fun p hp => h p (List.mem_cons_of_mem _ hp)) p hp
theorem lookup_mem {f : Nat} {v : V} : ∀ {fs : List (Nat × V)}, fs.lookup f = some v → (f, v) ∈ fs
  | (i, x) :: r, h => by
    rw [List.lookup_cons] at h
    by_cases e : f = i
    · subst e
      simp at h
      subst h
      exact List.mem_cons_self
    · have e3 : (f == i) = false := beq_eq_false_iff_ne.mpr e
      rw [e3] at h
      exact List.mem_cons_of_mem _ (lookup_mem h)
/-- what of the text the classes must have -/
structure Clss (P : Prm) : Prop where
  cl : ∀ c C, P.cls c = some C → Cls P.K C
  na : ∀ c C i, P.cls c = some C → i ∈ atOf c → NoAttr P.K C (anOf i)

abbrev botE : Nat → L2.St → G → Prop := fun _ _ _ => False
/-- a promise over the abstract heap, nothing raised -/
def lowSp (P : Prm) (sp : SpG) : Sp := fun vs H Q _ => Lo P (fun g Q' => sp vs g Q' fun _ _ => False) H Q

def isStar : Expr → Bool
  | .Starred _ _ => true
  | _ => false
theorem star_cons {e : Expr} {es : List Expr} {env : Env} (h : isStar e = false) : starEach (e :: es) env = (false, eval e env) :: starEach es env := by
  cases e <;> first | rfl | (simp [isStar] at h)
theorem star_any {pos : Pos} {env : Env} : ∀ {es : List Expr}, (es.all fun e => !isStar e) = true → (backTo pos (starEach es env)).any (·.1) = false
  | [], _ => rfl
  | e :: es, h => by
    rw [List.all_cons, Bool.and_eq_true] at h
    have h1 : isStar e = false := by simpa using h.1
    rw [star_cons h1]
    show (false || (backTo pos (starEach es env)).any (·.1)) = false
    rw [star_any h.2]
    rfl
theorem base_of {o : Expr} {f : Str} {env : Env} {w : Sem Value} (h : ∀ id p q, o = .Call (.Name id p) [] [] q → id ≠ "super") : attributeBase o f env w = w := by
  unfold attributeBase
  split
  · rename_i id _ pos
    have hn : (id != "super") = true := bne_iff_ne.mpr (h id _ pos rfl)
    rw [hn]
    rfl
  · rfl
section
variable {P : Prm} {X : Cx} {c : Cal} {e a b o i : Expr} {es : List Expr} {ta tb te : T} {tl : TLs} {pos : Pos}
theorem g_at (hK : X.K = P.K) (cl : Clss P) {f : Nat} (ha : PE X a (RE P c ta)) (hb : attributeBase a (anOf f) X.env (eval a X.env) = eval a X.env) : PE X (.Attribute a (anOf f) pos) (RE P c (eAt ta f)) := by
  refine PE.imp (pe_fld ha hb) fun σ H Q ⟨g, Q', A, h, i⟩ => ⟨g, _, A, h, fun x g1 H1 q A1 => ?_⟩
  obtain ⟨p, cn, fs, v, rfl, e, l, q⟩ := q
  obtain ⟨C, dx, e1, e2, e3⟩ := A1.ins e
  have hf := e3 _ (lookup_mem l)
  rw [hK]
  exact ⟨p, C, dx, nmF fs, v, rfl, e2, cl.cl cn C e1, cl.na cn C f e1 hf, (nmF_lookup (at_lt _ _ hf) fs fun p hp => at_lt _ _ (e3 p hp)).trans l, i _ _ _ q A1⟩
theorem ix_at {fs : List (Nat × V)} {cn : Nat} (h : ∀ p ∈ fs, p.1 ∈ atOf cn) {m : Str} (hm : ∀ i ∈ atOf cn, anOf i ≠ m) : (nmF fs).lookup m = none := by
  cases z : (nmF fs).lookup m with
  | none => rfl
  | some v =>
    have := PySem.mem_of_lookup z
    obtain ⟨p, hp, e⟩ := List.mem_map.mp this
    injection e with e1 e2
    exact absurd e1 (hm _ (h p hp))
/-! built-in functions -/
theorem g_bi {x : Str} {id : String} {f : Bi} {p : Pos} (hk : c.kl = P.kl) (hc : CallR X (.builtin id) (biL P f)) (hg : Gl X x) (hm : X.mg x = none) (hv : bootBuiltins x = some (.builtin id)) (hn : x ≠ "__name__") (hdb : (x == ("__debug__" : Str)) = false)
    (ha : PA X (e :: es) (RL P c tl)) (he : isStar e = false) (hes : (es.all fun e => !isStar e) = true) : PE X (.Call (.Name x p) (e :: es) [] pos) (RE P c (eBi f tl)) := by
  refine PE.imp (pe_callB hc hg hm hv ha hn hdb (star_cons he) (star_any hes)) fun σ H Q ⟨g, Q', A, h, i⟩ => ⟨g, _, A, h, fun xs g1 H1 q A1 => ⟨g1, Q', A1, ?_, i⟩⟩
  rw [← hk]; exact q
theorem g_biT {x : Str} {id : String} {f : Bi} {p : Pos} (hk : c.kl = P.kl) (hc : CallR X (.type id) (biL P f)) (hg : Gl X x) (hm : X.mg x = none) (hv : bootBuiltins x = some (.type id)) (hn : x ≠ "__name__") (hdb : (x == ("__debug__" : Str)) = false)
    (ha : PA X (e :: es) (RL P c tl)) (he : isStar e = false) (hes : (es.all fun e => !isStar e) = true) : PE X (.Call (.Name x p) (e :: es) [] pos) (RE P c (eBi f tl)) := by
  refine PE.imp (pe_callTy hc hg hm hv ha hn hdb (star_cons he) (star_any hes)) fun σ H Q ⟨g, Q', A, h, i⟩ => ⟨g, _, A, h, fun xs g1 H1 q A1 => ⟨g1, Q', A1, ?_, i⟩⟩
  rw [← hk]; exact q
/-- isinstance(e, T) -/
theorem g_isi (hK : X.K = P.K) (hk : c.kl = P.kl) {f : Bi} {T : String} {p p2 : Pos} {y : Str} (hf : (f, T) ∈ [(Bi.isint, "int"), (Bi.isbool, "bool"), (Bi.isstr, "str"), (Bi.istuple, "tuple"), (Bi.islist, "list")])
    (hg : Gl X "isinstance") (hm : X.mg "isinstance" = none) (hgT : Gl X y) (hmT : X.mg y = none) (hvT : bootBuiltins y = some (.type T)) (hnT : y ≠ "__name__") (hdT : (y == ("__debug__" : Str)) = false) (ha : PE X e (RE P c te)) (he : isStar e = false) :
    PE X (.Call (.Name "isinstance" p) [e, .Name y p2] [] pos) (RE P c (eBi f (lCons te lNil))) := by
  have hT : PE X (.Name y p2) (tC (.ty T)) := pe_bltn hgT hmT hvT rfl hnT hdT
  have hA : PA X [e, .Name y p2] (tCons (RE P c te) (tCons (tC (.ty T)) tNil)) := pa_cons ha (pa_cons hT pa_nil (star_cons rfl)) (star_cons he)
  refine PE.imp (pe_callB (bi_isi hK hf) hg hm (by decide +kernel) hA (by decide) (by decide) (star_cons he) (star_any rfl)) fun σ H Q ⟨g, Q', A, h, i⟩ => ⟨g, _, A, h, fun x g1 H1 q A1 => ⟨x, rfl, g1, Q', A1, ?_, i⟩⟩
  rw [← hk]; exact q

/-! methods of built-in types -/
/-- the type of a value, for a method -/
def bmT (m : Bm) (K : PySem.W.Frag) (x : V) (H : Hp) (T : String) : Prop := tyV K T x H
theorem ty_list {K : PySem.W.Frag} {H : Hp} {a : Addr} {xs : List V} (h : H a = some (.lst xs)) : tyV K "list" (.ref a) H := Or.inl ⟨rfl, xs, SqL.of h⟩
theorem ty_dict {K : PySem.W.Frag} {H : Hp} {a : Addr} {kvs} (h : H a = some (.dK kvs)) : tyV K "dict" (.ref a) H := Or.inr (Or.inr (Or.inl ⟨rfl, Or.inl ⟨kvs, h⟩⟩))
structure BmAt (T : String) (name : Str) (id : String) : Prop where
  pa : PlainAttrs T
  sl : Slot T name id
  ty : typeOf (.builtin id) = pure (.type "method_descriptor")
theorem bm_of {T id : String} {name : Str} (B : BmAt T name id) {apos cpos : Pos} {x : V} {v : Value} {pins : List (Addr × Obj)} {s : Shared} {σ : L2.St} {H : Hp} {Q : VK} (I : Inv X pins σ H s) (rx : RelV x v) (ty : tyV X.K T x H) (R : V → List V → Hp → VK → Prop) (hm : MtR X id R) (ha : PA X es (RL P c tl))
    (hes : (es.all fun e => !isStar e) = true) (hn : es = [] → tl = lNil) (q : RL P c tl σ H fun vs H2 => R x vs H2 Q) :
    ∃ T id, PlainAttrs T ∧ Slot T name id ∧ typeOf (.builtin id) = pure (.type "method_descriptor") ∧ s.TypeIs v T ∧ (∀ a, v = .ref a → ∃ ob, s.heap.get? a = some ob ∧ ob.dict = none) ∧
      wpAny (model X.prog X.w) X.A (callWith cpos (.builtin id) [v] (backTo cpos (starEach es X.env)) (backToKw cpos (keywordEach [] X.env))) (EP X pins σ Q) X.xe s := by
  obtain ⟨h1, h2⟩ := tyV_is I rx ty
  refine ⟨T, id, B.pa, B.sl, B.ty, h1, h2, ?_⟩
  refine Calls.callWith_builtin (star_any hes) ?_
  cases es with
  | nil =>
    have e := hn rfl
    subst e
    obtain ⟨g, Q', A, h, i⟩ := q
    exact PySem.evalArgs_none (hm pins s σ H x [] v [] Q I rx .nil (i _ _ _ h A))
  | cons e es =>
    have hA := ha.run cpos pins s σ H _ I q
    rw [star_cons (by rw [List.all_cons, Bool.and_eq_true] at hes; simpa using hes.1)] at hA ⊢
    refine Calls.evalArgs_plain ?_
    exact thn hA fun us s2 ⟨vs, H2, I2, r2, q2⟩ => hm pins s2 σ H2 x vs v us Q I2 rx r2 q2
/-- the name of a method -/
def bmName : Bm → Str
  | .append => "append" | .extend => "extend" | .pop => "pop" | .popK => "pop" | .insert => "insert" | .reverse => "reverse" | .get => "get" | .count => "count" | .join => "join" | .replace => "replace" | .partition => "partition" | .split => "split" | .rfind => "rfind"
def bmRd (P : Prm) (c : Cal) (m : Bm) : V → List V → Hp → VK → Prop := fun x vs H Q => Lo P (bmV c.kl m x vs) H Q
/-- every method by the type that its receiver has -/
theorem bm_run (hK : X.K = P.K) (hk : c.kl = P.kl) {m : Bm} {apos cpos : Pos} {x : V} {v : Value} {pins : List (Addr × Obj)} {s : Shared} {σ : L2.St} {H : Hp} {g : G} {Q : VK} (I : Inv X pins σ H s) (rx : RelV x v) (A : Ab P g H) (hx : bmOk m x g) (ha : PA X es (RL P c tl))
    (hes : (es.all fun e => !isStar e) = true) (hn : es = [] → tl = lNil) (q : RL P c tl σ H fun vs H2 => bmRd P c m x vs H2 Q) :
    ∃ T id, PlainAttrs T ∧ Slot T (bmName m) id ∧ typeOf (.builtin id) = pure (.type "method_descriptor") ∧ s.TypeIs v T ∧ (∀ a, v = .ref a → ∃ ob, s.heap.get? a = some ob ∧ ob.dict = none) ∧
      wpAny (model X.prog X.w) X.A (callWith cpos (.builtin id) [v] (backTo cpos (starEach es X.env)) (backToKw cpos (keywordEach [] X.env))) (EP X pins σ Q) X.xe s := by
  unfold bmOk at hx
  split at hx
  · obtain ⟨xs, e⟩ := hx
    refine bm_of (apos := apos) ⟨PySem.F.plainAttrs_list, PySem.F.slot_list_append, PySem.F.type_list_append⟩ I rx (ty_list (A.lst e)) _ (fun pins s σ H x vs v us Q I rx r h => ?_) ha hes hn q
    obtain ⟨g, Q', A, ⟨a, xs, y, rfl, rfl, e, hz, q⟩, i⟩ := h
    exact mt_append pins s σ H _ _ v us Q I rx r ⟨a, xs, y, rfl, rfl, A.lst e, hz, i _ _ _ q (A.setL e)⟩
  · obtain ⟨xs, e⟩ := hx
    refine bm_of (apos := apos) ⟨PySem.F.plainAttrs_list, PySem.F.slot_list_extend, PySem.F.type_list_extend⟩ I rx (ty_list (A.lst e)) _ (fun pins s σ H x vs v us Q I rx r h => ?_) ha hes hn q
    obtain ⟨g, Q', A, ⟨a, b, xs, zs, rfl, rfl, e, e2, hz, q⟩, i⟩ := h
    exact mt_extend pins s σ H _ _ v us Q I rx r ⟨a, b, xs, zs, rfl, rfl, A.lst e, A.lst e2, hz, i _ _ _ q (A.setL e)⟩
  · refine bm_of (apos := apos) (T := "list") ⟨PySem.F.plainAttrs_list, PySem.F.slot_list_insert, PySem.F.type_list_insert⟩ I rx (let ⟨xs, e⟩ := hx; ty_list (A.lst e)) _ (fun pins s σ H x vs v us Q I rx r h => ?_) ha hes hn q
    obtain ⟨g, Q', A, ⟨a, xs, j, y, rfl, rfl, e, hz, h0, h1, q⟩, i⟩ := h
    exact mt_insert pins s σ H _ _ v us Q I rx r ⟨a, xs, j, y, rfl, rfl, A.lst e, hz, h0, h1, i _ _ _ q (A.setL e)⟩
  · obtain ⟨xs, e⟩ := hx
    refine bm_of (apos := apos) ⟨PySem.F.plainAttrs_list, PySem.F.slot_list_reverse, PySem.F.type_list_reverse⟩ I rx (ty_list (A.lst e)) _ (fun pins s σ H x vs v us Q I rx r h => ?_) ha hes hn q
    obtain ⟨g, Q', A, ⟨a, xs, rfl, rfl, e, q⟩, i⟩ := h
    exact mt_reverse pins s σ H _ _ v us Q I rx r ⟨a, xs, rfl, rfl, A.lst e, i _ _ _ q (A.setL e)⟩
  · obtain ⟨xs, e⟩ := hx
    refine bm_of (apos := apos) ⟨PySem.F.plainAttrs_list, PySem.F.slot_list_pop, PySem.F.type_list_pop⟩ I rx (ty_list (A.lst e)) _ (fun pins s σ H x vs v us Q I rx r h => ?_) ha hes hn q
    obtain ⟨g, Q', A, h, i⟩ := h
    unfold bmV at h
    simp only at h
    split at h
    · obtain ⟨a, xs, y, rfl, e, ey, q⟩ := h
      exact mt_pop pins s σ H _ _ v us Q I rx r ⟨a, xs, y, rfl, rfl, A.lst e, ey, i _ _ _ q (A.setL e)⟩
    · obtain ⟨a, xs, j, n, y, rfl, rfl, e, h1, h2, h3, h4, q⟩ := h
      exact mt_popAt pins s σ H _ _ v us Q I rx r ⟨a, xs, j, n, y, rfl, rfl, A.lst e, h1, h2, h3, h4, i _ _ _ q (A.setL e)⟩
    · exact h.elim
  · obtain ⟨xs, e⟩ := hx
    refine bm_of (apos := apos) ⟨PySem.F.plainAttrs_dict, PySem.F.slot_dict_pop, PySem.F.type_dict_pop⟩ I rx (ty_dict (A.dK e)) _ (fun pins s σ H x vs v us Q I rx r h => ?_) ha hes hn q
    obtain ⟨g, Q', A, ⟨a, kvs, k, w, rfl, rfl, e, l, q⟩, i⟩ := h
    cases rx
    obtain ⟨u, rfl, ru⟩ := vals1 r
    exact d_pop I (A.dK e) ru l (.inl rfl) fun w' s' I' rw' => ⟨w, _, I', rw', i _ _ _ q (A.setK e)⟩
  · refine bm_of (apos := apos) (T := "dict") ⟨PySem.F.plainAttrs_dict, PySem.F.slot_dict_get, PySem.F.type_dict_get⟩ I rx (let ⟨xs, e⟩ := hx; ty_dict (A.dK e)) _ (fun pins s σ H x vs v us Q I rx r h => ?_) ha hes hn q
    obtain ⟨g, Q', A, h, i⟩ := h
    exact h.elim
  · refine bm_of (apos := apos) ⟨PySem.F.plainAttrs_str, PySem.F.slot_str_count, PySem.F.type_str_count⟩ I rx rfl _ (fun pins s σ H x vs v us Q I rx r h => ?_) ha hes hn q
    obtain ⟨g, Q', A, ⟨a, b, rfl, rfl, q⟩, i⟩ := h
    exact mt_count pins s σ H _ _ v us Q I rx r ⟨a, b, rfl, rfl, i _ _ _ q A⟩
  · refine bm_of (apos := apos) ⟨PySem.F.plainAttrs_str, PySem.F.slot_str_join, PySem.F.type_str_join⟩ I rx rfl _ (fun pins s σ H x vs v us Q I rx r h => ?_) ha hes hn q
    obtain ⟨g, Q', A, ⟨a, p, ys, rfl, rfl, l, hz, q⟩, i⟩ := h
    rw [hk] at l
    have z := A.ls l
    rw [← hK] at z
    exact mt_join pins s σ H _ _ v us Q I rx r ⟨a, p, ys, rfl, rfl, .inl z, hz, i _ _ _ q A⟩
  · refine bm_of (apos := apos) ⟨PySem.F.plainAttrs_str, PySem.F.slot_str_replace, PySem.F.type_str_replace⟩ I rx rfl _ (fun pins s σ H x vs v us Q I rx r h => ?_) ha hes hn q
    obtain ⟨g, Q', A, h, i⟩ := h
    exact h.elim
  · refine bm_of (apos := apos) ⟨PySem.F.plainAttrs_str, PySem.F.slot_str_partition, PySem.F.type_str_partition⟩ I rx rfl _ (fun pins s σ H x vs v us Q I rx r h => ?_) ha hes hn q
    obtain ⟨g, Q', A, ⟨a, b, rfl, rfl, h1, h2, q⟩, i⟩ := h
    exact mt_partition pins s σ H _ _ v us Q I rx r ⟨a, b, rfl, rfl, h1, h2, fun p np => i _ _ _ (q p (A.fresh np)) (A.newU np)⟩
  · refine bm_of (apos := apos) ⟨PySem.F.plainAttrs_str, PySem.F.slot_str_split, PySem.F.type_str_split⟩ I rx rfl _ (fun pins s σ H x vs v us Q I rx r h => ?_) ha hes hn q
    obtain ⟨g, Q', A, ⟨a, b, rfl, rfl, h1, h2, q⟩, i⟩ := h
    exact mt_split pins s σ H _ _ v us Q I rx r ⟨a, b, rfl, rfl, h1, h2, fun p np => i _ _ _ (q p (A.fresh np)) (A.newL np)⟩
  · refine bm_of (apos := apos) ⟨PySem.F.plainAttrs_str, PySem.F.slot_str_rfind, PySem.F.type_str_rfind⟩ I rx rfl _ (fun pins s σ H x vs v us Q I rx r h => ?_) ha hes hn q
    obtain ⟨g, Q', A, ⟨a, b, rfl, rfl, q⟩, i⟩ := h
    exact mt_rfind pins s σ H _ _ v us Q I rx r ⟨a, b, rfl, rfl, i _ _ _ q A⟩
  · exact hx.elim
end
end SW
end

section
set_option Elab.async false
set_option linter.all false
set_option maxRecDepth 100000
set_option maxHeartbeats 4000000
namespace SW
open PySem PySem.Spec PyProof.Rows L2
def baseOk (o : Expr) : Bool := match o with
  | .Call (.Name id _) [] [] _ => id != "super"
  | _ => true
theorem base_ok {o : Expr} {f : Str} {env : Env} {w : Sem Value} (h : baseOk o = true) : attributeBase o f env w = w :=
  base_of fun id p q e => by subst e; exact bne_iff_ne.mp h
theorem star_all {pos : Pos} {env : Env} {es : List Expr} (h : (es.all fun e => !isStar e) = true) : (backTo pos (starEach es env)).all (fun x => !x.1) = true := by
  have := star_any (pos := pos) (env := env) h
  rw [List.any_eq_false] at this
  rw [List.all_eq_true]
  intro x hx
  simpa using this x hx
theorem few_ok {pos : Pos} {env : Env} {es : List Expr} (h : (es.all fun e => !isStar e) = true) (hl : es.length < 30) :
    ((backTo pos (starEach es env)).all (fun x => !x.1) && (backToKw pos (keywordEach [] env)).all (fun x => x.1.isSome) && decide (es.length + ([] : List Keyword).length + (if ([] : List Keyword).isEmpty then 0 else 1) < 30)) = true := by
  rw [star_all h]
  simp only [List.length_nil, List.isEmpty_nil, Bool.true_and, if_true, Nat.add_zero, decide_eq_true hl, Bool.and_true]
  rfl
theorem meth_eval {o : Expr} {m : Str} {es : List Expr} {apos pos : Pos} {env : Env} (hb : baseOk o = true) (h : (es.all fun e => !isStar e) = true) (hl : es.length < 30) (hline : (apos.endLine == pos.line) = true) :
    eval (.Call (.Attribute o m apos) es [] pos) env = (do
      let ov ← eval o env
      standAt apos.atName
      let (f, first) ← holding [ov] (getMethod ov m (do return (← importBound o env).getD true))
      callWith pos f first (backTo pos (starEach es env)) (backToKw pos (keywordEach [] env))) := by
  rw [arm_eval_Call, base_ok hb]
  have e : methodCallForm (es.length + ([] : List Keyword).length) (backTo pos (starEach es env)) (backToKw pos (keywordEach [] env)) = true := by
    exact few_ok (pos := pos) (env := env) h hl
  unfold methodCall
  rw [e]
  unfold calleeOf methodCallPos
  rw [hline]
  simp only [if_true, Bool.or_true, pure_bind]
section
variable {P : Prm} {X : Cx} {c : Cal} {e a b o i : Expr} {es : List Expr} {ta tb te : T} {tl : TLs} {pos : Pos}
theorem g_bm (hK : X.K = P.K) (hk : c.kl = P.kl) {m : Bm} {apos : Pos} (ho : PE X o (RE P c ta)) (ha : PA X es (RL P c tl)) (hb : baseOk o = true) (hes : (es.all fun e => !isStar e) = true) (hl : es.length < 30) (hline : (apos.endLine == pos.line) = true) (hn : es = [] → tl = lNil) :
    PE X (.Call (.Attribute o (bmName m) apos) es [] pos) (RE P c (eBm m ta tl)) := by
  refine ⟨fun pins s σ H Q I ⟨g, Q', A, h, i⟩ => ?_⟩
  refine wpAny_Call_method_late (base_ok hb) (few_ok hes hl) hline rfl (thn (ho.run pins s σ H (fun x H1 => ∃ g1, Ab P g1 H1 ∧ bmOk m x g1 ∧ RL P c tl σ H1 fun vs H2 => bmRd P c m x vs H2 Q) I ⟨g, _, A, h, fun x g1 H1 q A1 => ⟨g1, A1, q.1, g1, _, A1, q.2, fun vs g2 H2 q2 A2 => ⟨g2, Q', A2, q2, i⟩⟩⟩) fun v s1 ⟨x, H1, I1, rx, g1, A1, hx, q1⟩ => ?_)
  exact bm_run (apos := apos) hK hk I1 rx A1 hx ha hes hn q1

/-! ### calls of the program's own defs -/
/-- the def with the number f stands at fa; it keeps its promise at level k -/
structure FnAt (X : Cx) (P : Prm) (c : Cal) (k : Nat) (f : Nat) (fa : Addr) : Prop where
  ok : ∃ fd ps, FnOk X.prog X.w X.K X.mg X.base CX0 k fa fd ps (lowSp P (c.fn f)) ∧ Binds X.K fd ps []
  kp : PySem.W.keepIn X.K (.ref fa) = true
theorem g_fn {x : Str} {p : Pos} {f k : Nat} {fa : Addr} (hE : c.er = botE) (F : FnAt X P c k f fa) (hr : Room k X.A) (hg : Gl X x) (hm : X.mg x = some (.ref fa)) (hdb : (x == ("__debug__" : Str)) = false)
    (ha : PA X es (RL P c tl)) (hes : (es.all fun e => !isStar e) = true) (hn : es = [] → tl = lNil) : PE X (.Call (.Name x p) es [] pos) (RE P c (eFn f tl)) := by
  obtain ⟨⟨fd, ps, F, hb⟩, hk⟩ := F
  cases es with
  | nil =>
    have e := hn rfl
    subst e
    refine PE.imp (pe_call0 F hr hg hm hk hb .nil pass0 hdb) fun σ H Q ⟨g, Q', A, h, i⟩ => ?_
    refine ⟨g, Q', A, ?_, i⟩
    unfold eFn at h
    rw [hE] at h
    exact h
  | cons e es =>
    rw [List.all_cons, Bool.and_eq_true] at hes
    refine PE.imp (pe_call F hr hg hm hk hb .nil pass0 ha hdb (star_cons (by simpa using hes.1)) (star_any hes.2)) fun σ H Q ⟨g, Q', A, h, i⟩ => ?_
    refine ⟨g, _, A, h, fun vs g1 H1 q A1 => ?_⟩
    rw [hE] at q
    rw [List.append_nil]
    exact ⟨g1, Q', A1, q, i⟩
theorem Ab.mk {g : G} {H : Hp} {p dx C : Addr} {cn : Nat} (A : Ab P g H) (e1 : H p = none) (e2 : H dx = none) (ne : dx ≠ p) (hc : P.cls cn = some C) : Ab P (gu g p (.ins cn [])) (upd (upd H dx (.own p)) p (.ins C dx [])) := by
  refine A.new e1 (fun b v z => ?_) fun own => ⟨C, dx, hc, upd_same, fun p hp => nomatch hp⟩
  rw [upd_ne (ne_of_none z e1), upd_ne (ne_of_none z e2)]
  exact z
theorem g_mk {x : Str} {p : Pos} {f k cn : Nat} {fa C : Addr} (hE : c.er = botE) (F : FnAt X P c k f fa) (M : Mk X.K C fa) (hC : P.cls cn = some C) (hr : Room (k + 1) X.A) (hg : Gl X x) (hm : X.mg x = some (.ref C)) (hdb : (x == ("__debug__" : Str)) = false)
    (ha : PA X es (RL P c tl)) (hes : (es.all fun e => !isStar e) = true) (hn : es = [] → tl = lNil) : PE X (.Call (.Name x p) es [] pos) (RE P c (eMk cn f tl)) := by
  obtain ⟨⟨fd, ps, F, hb⟩, hk⟩ := F
  cases es with
  | nil =>
    have e := hn rfl
    subst e
    refine PE.imp (pe_make0 M F hr hg hm hb .nil pass0 hdb) fun σ H Q ⟨g, Q', A, h, i⟩ => ?_
    show ∀ x dx, H x = none → H dx = none → dx ≠ x → _
    intro q dx e1 e2 ne
    unfold eMk at h
    rw [hE] at h
    exact ⟨_, _, A.mk e1 e2 ne hC, h q (A.fresh e1), fun v g2 H2 q2 A2 => ⟨q2.1, i _ _ _ q2.2 A2⟩⟩
  | cons e es =>
    rw [List.all_cons, Bool.and_eq_true] at hes
    refine PE.imp (pe_make M F hr hg hm hb .nil pass0 ha hdb (star_cons (by simpa using hes.1)) (star_any hes.2)) fun σ H Q ⟨g, Q', A, h, i⟩ => ?_
    refine ⟨g, _, A, h, fun vs g1 H1 q A1 => ?_⟩
    rw [hE] at q
    rw [List.append_nil]
    intro r dx e1 e2 ne
    exact ⟨_, _, A1.mk e1 e2 ne hC, q r (A1.fresh e1), fun v g2 H2 q2 A2 => ⟨q2.1, i _ _ _ q2.2 A2⟩⟩
/-- o.m(..): for each class that has m, the def -/
structure MtAt (X : Cx) (P : Prm) (c : Cal) (k : Nat) (m : Str) (ms : List (Nat × Nat)) : Prop where
  at_ : ∀ cn f, ms.lookup cn = some f → ∀ C, P.cls cn = some C → ∃ fa, Meth X.K C m fa ∧ FnAt X P c k f fa
  ne : ∀ cn f, ms.lookup cn = some f → ∀ i ∈ atOf cn, anOf i ≠ m
theorem Ab.cls {g : G} {H : Hp} {x : V} {cn : Nat} (A : Ab P g H) (h : clsOf g x = some cn) : ∃ a C dx fs, x = .ref a ∧ H a = some (.ins C dx (nmF fs)) ∧ P.cls cn = some C ∧ ∀ p ∈ fs, p.1 ∈ atOf cn := by
  unfold clsOf at h
  split at h
  · rename_i a
    split at h
    · rename_i cn' fs e
      cases h
      obtain ⟨C, dx, h1, h2, h3⟩ := A.ins e
      exact ⟨a, C, dx, fs, rfl, h2, h1, h3⟩
    · rename_i S e
      cases h
      obtain ⟨own, A⟩ := A
      obtain ⟨C, dx, l, ts, h1, h2, _⟩ := (show ShAt P own H a S from (A.at_ _ _ e).2).ex
      exact ⟨a, C, dx, l.fs, rfl, h2, h1, by intro p hp; simp [ShL.fs] at hp; rcases hp with rfl | rfl | rfl | rfl | rfl | rfl | rfl | rfl <;> simp [atOf]⟩
    · cases h
  · cases h
theorem g_mt (hK : X.K = P.K) (cl : Clss P) {m : Str} {ms : List (Nat × Nat)} {k : Nat} {apos : Pos} (hE : c.er = botE) (M : MtAt X P c k m ms) (hr : Room k X.A) (ho : PE X o (RE P c ta)) (ha : PA X es (RL P c tl)) (hb : baseOk o = true) (hes : (es.all fun e => !isStar e) = true) (hl : es.length < 30) (hline : (apos.endLine == pos.line) = true) (hn : es = [] → tl = lNil) :
    PE X (.Call (.Attribute o m apos) es [] pos) (RE P c (eMt ms ta tl)) := by
  refine ⟨fun pins s σ H Q I ⟨g, Q', A, h, i⟩ => ?_⟩
  refine PySem.W.methodCall_KW (thn (ho.run pins s σ H (fun x H1 => ∃ g1 cn f, Ab P g1 H1 ∧ clsOf g1 x = some cn ∧ ms.lookup cn = some f ∧ RL P c tl σ H1 fun vs H2 => lowSp P (c.fn f) (x :: vs) H2 Q fun _ _ _ => False) I
    ⟨g, _, A, h, fun x g1 H1 q A1 => ?_⟩) fun u s1 ⟨x, H1, I1, rx, g1, cn, f, A1, e1, e2, q⟩ => ?_) (meth_eval hb hes hl hline)
  · obtain ⟨cn, f, e1, e2, q⟩ := q
    rw [hE] at q
    exact ⟨g1, cn, f, A1, e1, e2, g1, _, A1, q, fun vs g2 H2 q2 A2 => ⟨g2, Q', A2, q2, i⟩⟩
  · obtain ⟨a, C, dx, fs, rfl, ea, eC, hf⟩ := A1.cls e1
    obtain ⟨fa, Mt, ⟨⟨fd, ps, F, hbi⟩, hk⟩⟩ := M.at_ cn f e2 C eC
    obtain rfl : u = Value.ref a := rx
    refine getmeth_ok I1 ea (hK ▸ cl.cl cn C eC) Mt (ix_at hf (M.ne cn f e2)) ?_
    cases es with
    | nil =>
      have e := hn rfl
      subst e
      obtain ⟨g, Q', A, h, i⟩ := q
      exact PySem.W.callWith_K0 (first := [.ref a]) I1.kIn Mt.kp (run_fn (us := [.ref a]) (vs := [.ref a]) F hr hbi .nil pass0 I1 (.cons rfl .nil) (by rw [List.append_nil]; exact i _ _ _ h A))
    | cons e es =>
      rw [List.all_cons, Bool.and_eq_true] at hes
      refine PySem.W.callWith_K (first := [.ref a]) (h₀ := X.base) I1.ok.mod.kin Mt.kp (thn (ha.run pos pins s1 σ H1 _ I1 q) fun us s2 ⟨vs, H2, I2, r, q2⟩ => ⟨I2.kIn, ?_⟩) (star_cons (by simpa using hes.1)) (star_any hes.2)
      exact run_fn (us := .ref a :: us) (vs := .ref a :: vs) F hr hbi .nil pass0 I2 (.cons rfl r) (by rw [List.append_nil]; exact q2)
end
end SW
end

section
set_option Elab.async false
set_option linter.all false
set_option maxRecDepth 100000
set_option maxHeartbeats 4000000
namespace SW
open PySem PySem.Spec PyProof.Rows L2
/-! ### targets -/
abbrev RG (P : Prm) (c : Cal) (t : TTg) : TG := fun v σ H Q => Lo P (fun g (Q' : L2.St → G → Prop) => t c v σ g Q') H Q
theorem PG.imp {X : Cx} {e : Expr} {t t' : TG} (h : PG X e t) (i : ∀ v σ H Q, t' v σ H Q → t v σ H Q) : PG X e t' := ⟨fun pins s σ H x u Q I r q => h.run pins s σ H x u Q I r (i x σ H Q q)⟩
section
variable {P : Prm} {X : Cx} {c : Cal} {e a b o i : Expr} {es : List Expr} {ta tb te : T} {tl : TLs} {pos : Pos}
theorem g_name {i : Nat} {x : Str} (hN : X.N.Nodup) (hi : X.N[i]? = some x) (hx : Loc X.env.scope x) (hf : X.fn x = true ∨ X.env.scope.names.lookup x = some .local) : PG X (.Name x pos) (RG P c (gN i)) :=
  PG.imp (pg_name hN hi hx hf) fun v σ H Q ⟨g, Q', A, h, i⟩ => i _ _ _ h A
def tgs : List Nat → TGs
  | [] => gNil
  | i :: r => gCons (gName i) (tgs r)
theorem tgs_ok {Q : L2.St → Hp → Prop} {H : Hp} : ∀ {is : List Nat} {xs : List V} {σ : L2.St}, xs.length = is.length → Q ((is.zip xs).foldl (fun s p => s.set p.1 (some p.2)) σ) H → tgs is xs σ H Q
  | [], [], _, _, h => ⟨rfl, h⟩
  | i :: r, x :: xs, σ, hl, h => ⟨x, xs, rfl, tgs_ok (is := r) (xs := xs) (by simpa using hl) h⟩
  | [], _ :: _, _, hl, _ => by simp at hl
  | _ :: _, [], _, hl, _ => by simp at hl
/-- names that are stored -/
inductive Nms (X : Cx) : List Expr → List Nat → Prop
  | nil : Nms X [] []
  | cons {x p i es is} : X.N[i]? = some x → Loc X.env.scope x → (X.fn x = true ∨ X.env.scope.names.lookup x = some .local) → Nms X es is → Nms X (.Name x p :: es) (i :: is)
theorem Nms.pgs (hN : X.N.Nodup) {is : List Nat} (h : Nms X es is) : PGs X es (tgs is) ∧ (assignEach es X.env).length = is.length ∧ (assignEach es X.env).findIdx? (·.1) = none := by
  induction h with
  | nil => exact ⟨pgs_nil, rfl, rfl⟩
  | cons h1 h2 h3 _ ih =>
    obtain ⟨i1, i2, i3⟩ := ih
    refine ⟨pgs_cons (pg_name hN h1 h2 h3) i1 rfl, ?_, ?_⟩
    · show (assignEach _ _).length + 1 = _
      rw [i2]; rfl
    · show List.findIdx? _ ((false, _) :: assignEach _ X.env) = none
      rw [List.findIdx?_cons]
      simp [i3]
theorem g_tgt {kk : Nat} {is : List Nat} (hK : X.K = P.K) (hc : X.calm = true) (hN : X.N.Nodup) (h : Nms X es is) : PG X (.Tuple es kk pos) (RG P c (gTp is)) := by
  obtain ⟨h1, h2, h3⟩ := h.pgs hN
  refine PG.imp (pg_tup hc h1 h2 h3) fun v σ H Q ⟨g, Q', A, ⟨a, xs, ev, e, hl, q⟩, i⟩ => ?_
  have z := A.tp e
  rw [← hK] at z
  exact ⟨a, xs, ev, z, hl, tgs_ok hl (i _ _ _ q A)⟩

/-! ### what is walked -/
/-- the hand layer's iterator walks this -/
structure JOk (P : Prm) (S : Sq) (J : It) : Prop where
  go : ∀ i g H, Ab P g H → S.ok P.kl g → i < S.len → J.go i H
  stop : ∀ i g H, Ab P g H → S.ok P.kl g → ¬ i < S.len → J.stop i H
  yld : ∀ i g H x H' Q, Ab P g H → S.ok P.kl g → i < S.len → S.item i g Q → J.yld i H x H' → ∃ g', Ab P g' H' ∧ Q x g'
theorem get_of {α : Type} {xs : List α} {i : Nat} (h : i < xs.length) : ∃ x, xs[i]? = some x := ⟨xs[i], List.getElem?_eq_getElem h⟩
theorem j_lst {a : Addr} {xs : List V} : JOk P (.lst a xs) (Itl P.K a) where
  go := fun i g H A ok hi => let ⟨x, e⟩ := get_of hi; ⟨xs, x, A.ls ok, e⟩
  stop := fun i g H A ok hi => ⟨xs, A.ls ok, Nat.le_of_not_lt hi⟩
  yld := fun i g H x H' Q A ok hi it ⟨e, y⟩ => by subst e; exact ⟨g, A, it x (y xs (A.ls ok))⟩
theorem j_tup {a : Addr} {xs : List V} : JOk P (.tup a xs) (Itt P.K a) where
  go := fun i g H A ok hi => let ⟨x, e⟩ := get_of hi; ⟨xs, x, A.tp ok, e⟩
  stop := fun i g H A ok hi => ⟨xs, A.tp ok, Nat.le_of_not_lt hi⟩
  yld := fun i g H x H' Q A ok hi it ⟨e, y⟩ => by subst e; exact ⟨g, A, it x (y xs (A.tp ok))⟩
theorem j_rng1 {lo : Int} {n : Nat} : JOk P (.rng lo 1 n) (Itr lo n) where
  go := fun i g H A ok hi => hi
  stop := fun i g H A ok hi => Nat.le_of_not_lt hi
  yld := fun i g H x H' Q A ok hi it ⟨e, y⟩ => by
    subst e y
    have it' : Q (.int (lo + (i : Nat) * 1)) g := it
    rw [Int.mul_one] at it'
    exact ⟨g, A, it'⟩
theorem j_rng {lo st : Int} {n : Nat} : JOk P (.rng lo st n) (Itc lo st n) where
  go := fun i g H A ok hi => hi
  stop := fun i g H A ok hi => Nat.le_of_not_lt hi
  yld := fun i g H x H' Q A ok hi it ⟨e, y⟩ => by subst e y; exact ⟨g, A, it⟩
theorem j_str {z : Str} : JOk P (.str z) (Its z) where
  go := fun i g H A ok hi => hi
  stop := fun i g H A ok hi => Nat.le_of_not_lt hi
  yld := fun i g H x H' Q A ok hi it ⟨e, k, ek, y⟩ => by subst e y; exact ⟨g, A, it k ek⟩
theorem j_enm {a : Addr} {xs : List V} : JOk P (.enm a xs) (Ite P.K a) where
  go := fun i g H A ok hi => let ⟨x, e⟩ := get_of hi; ⟨xs, x, A.ls ok, e⟩
  stop := fun i g H A ok hi => ⟨xs, A.ls ok, Nat.le_of_not_lt hi⟩
  yld := fun i g H x H' Q A ok hi it ⟨p, y, e1, e2, e3, e4⟩ => by subst e1 e3; exact ⟨_, A.newU e2, it p y (e4 xs (A.ls ok)) (A.fresh e2)⟩
theorem j_enmS {z : Str} : JOk P (.enmS z) (Ites z) where
  go := fun i g H A ok hi => hi
  stop := fun i g H A ok hi => Nat.le_of_not_lt hi
  yld := fun i g H x H' Q A ok hi it ⟨p, y, e1, e2, e3, e4⟩ => by subst e1 e3; exact ⟨_, A.newU e2, it p y e4 (A.fresh e2)⟩
theorem j_zip {a b : Addr} {xs ys : List V} : JOk P (.zip a b xs ys) (Itz P.K a b) where
  go := fun i g H A ok hi => by
    have hi' : i < min xs.length ys.length := hi
    obtain ⟨x, e⟩ := get_of (show i < xs.length by omega)
    obtain ⟨y, e'⟩ := get_of (show i < ys.length by omega)
    exact ⟨xs, ys, x, y, A.ls ok.1, A.ls ok.2, e, e'⟩
  stop := fun i g H A ok hi => ⟨xs, ys, A.ls ok.1, A.ls ok.2, by
    have hi' : ¬ i < min xs.length ys.length := hi
    omega⟩
  yld := fun i g H x H' Q A ok hi it ⟨p, y, z, e1, e2, e3, e4, e5⟩ => by subst e1 e3; exact ⟨_, A.newU e2, it p y z (e4 xs (A.ls ok.1)) (e5 ys (A.ls ok.2)) (A.fresh e2)⟩

abbrev RI (P : Prm) (c : Cal) (src : TI) : L2.TI := fun σ H R => Lo P (fun g R' => src c σ g R') H (fun S H' => ∀ J, JOk P S J → R J H')
theorem PI.imp {X : Cx} {tg e : Expr} {t t' : L2.TI} (h : PI X tg e t) (i : ∀ σ H Q, t' σ H Q → t σ H Q) : PI X tg e t' := ⟨fun pins s σ H Q I q => h.run pins s σ H Q I (i σ H Q q)⟩
/-- the value is walked -/
theorem iter_val (hK : X.K = P.K) (hk : c.kl = P.kl) {tg : Expr} {x : V} {v : Value} {pins : List (Addr × Obj)} {s1 : Shared} {σ : L2.St} {H1 : Hp} {R : It → Hp → Prop} {g1 : G} {R' : Sq → G → Prop} (I1 : Inv X pins σ H1 s1) (r1 : RelV x v) (A : Ab P g1 H1)
    (q : wkV c.kl x g1 R') (i : ∀ S g' H', R' S g' → Ab P g' H' → ∀ J, JOk P S J → R J H') : wpAny (model X.prog X.w) X.A (pyIter v) (PIE X pins σ tg R) X.xe s1 := by
  unfold wkV at q
  split at q
  · rename_i z
    obtain ⟨t, rfl⟩ := r1
    have q' := i _ _ _ q A _ j_str
    cases ha : z.cps.all (· < 128)
    · exact wpAny_pyIter_wide ha (pi_one (tk := s1.toks) I1 _ (turn_str _ z t "str_iterator" (.inr rfl)) ⟨_, Heap.get?_push_size _ rfl, rfl, rfl⟩ q')
    · exact wpAny_pyIter_ascii ha (pi_one (tk := s1.toks) I1 _ (turn_str _ z t "str_ascii_iterator" (.inl rfl)) ⟨_, Heap.get?_push_size _ rfl, rfl, rfl⟩ q')
  · rename_i a
    cases r1
    rcases q with ⟨xs, l, q⟩ | ⟨xs, l, q⟩
    · rw [hk] at l
      have hq := A.ls l
      rw [← hK] at hq
      have q' := i _ _ _ q A _ j_lst
      rw [← hK] at q'
      obtain ⟨its, rv, p, hz⟩ := I1.list hq
      exact wpAny_pyIter_list p.isList (pi_one (tk := s1.toks) I1 _ (turn_list a _) ⟨_, Heap.get?_push_size _ rfl, rfl, rfl⟩ q')
    · have hq := A.tp l
      rw [← hK] at hq
      have q' := i _ _ _ q A _ j_tup
      rw [← hK] at q'
      obtain ⟨its, rv, p, hz⟩ := I1.tuple hq
      exact wpAny_pyIter_tuple (show s1.heap.IsTuple a its.toArray from p) (pi_one (tk := s1.toks) I1 _ (turn_tuple a _) ⟨_, Heap.get?_push_size _ rfl, rfl, rfl⟩ q')
  · exact q.elim
theorem gi_val (hK : X.K = P.K) (hk : c.kl = P.kl) {tg : Expr} (ha : PE X a (RE P c ta)) : PI X tg a (RI P c (iVal ta)) := by
  refine ⟨fun pins s σ H R I ⟨g, R', A, h, i⟩ => ?_⟩
  refine thn (ha.run pins s σ H (fun x H1 => ∃ g1, Ab P g1 H1 ∧ wkV c.kl x g1 R') I ⟨g, _, A, h, fun x g1 H1 q A1 => ⟨g1, A1, q⟩⟩) fun v s1 ⟨x, H1, I1, r1, g1, A1, q1⟩ => ?_
  exact iter_val hK hk I1 r1 A1 q1 i
theorem gi_rng1 {tg : Expr} {p : Pos} (hg : Gl X "range") (hm : X.mg "range" = none) (ha : PE X a (RE P c ta)) (h1 : isStar a = false) : PI X tg (.Call (.Name "range" p) [a] [] pos) (RI P c (iRng1 ta)) := by
  refine PI.imp (pi_range1 hg hm (pa_cons ha pa_nil (star_cons h1)) (star_cons h1)) fun σ H R ⟨g, R', A, h, i⟩ => ?_
  refine ⟨g, _, A, h, fun x g1 H1 q A1 => ?_⟩
  obtain ⟨j, rfl, q1, q2, q⟩ := q
  exact ⟨j, rfl, q1, q2, i _ _ _ q A1 _ j_rng1⟩
theorem gi_rng2 {tg : Expr} {p : Pos} (hg : Gl X "range") (hm : X.mg "range" = none) (ha : PE X a (RE P c ta)) (hb : PE X b (RE P c tb)) (h1 : isStar a = false) (h2 : isStar b = false) : PI X tg (.Call (.Name "range" p) [a, b] [] pos) (RI P c (iRng2 ta tb)) := by
  refine PI.imp (pi_range2 hg hm (pa_cons ha (pa_cons hb pa_nil (star_cons h2)) (star_cons h1)) (by rw [star_cons h1, star_cons h2]; rfl) (star_cons h2)) fun σ H R ⟨g, R', A, h, i⟩ => ?_
  refine ⟨g, _, A, h, fun x g1 H1 q A1 => ⟨g1, _, A1, q, fun y g2 H2 q2 A2 => ?_⟩⟩
  obtain ⟨i', j, rfl, rfl, z1, z2, z3, z4, q⟩ := q2
  exact ⟨i', j, rfl, ⟨z1, z2, z3, z4⟩, i _ _ _ q A2 _ j_rng1⟩
theorem gi_rng3 {tg d : Expr} {td : T} {p : Pos} (hg : Gl X "range") (hm : X.mg "range" = none) (ha : PE X a (RE P c ta)) (hb : PE X b (RE P c tb)) (hd : PE X d (RE P c td)) (h1 : isStar a = false) (h2 : isStar b = false) (h3 : isStar d = false) :
    PI X tg (.Call (.Name "range" p) [a, b, d] [] pos) (RI P c (iRng3 ta tb td)) := by
  refine PI.imp (pi_range3 hg hm (pa_cons ha (pa_cons hb (pa_cons hd pa_nil (star_cons h3)) (star_cons h2)) (star_cons h1)) (star_cons h1) (star_any (by simp [h2, h3]))) fun σ H R ⟨g, R', A, h, i⟩ => ?_
  refine ⟨g, _, A, h, fun x g1 H1 q A1 => ⟨g1, _, A1, q, fun y g2 H2 q2 A2 => ⟨g2, _, A2, q2, fun z g3 H3 q3 A3 => ?_⟩⟩⟩
  obtain ⟨i', j, s, n, rfl, rfl, rfl, hr, q⟩ := q3
  exact ⟨i', j, s, n, rfl, hr, i _ _ _ q A3 _ j_rng⟩
theorem gi_enm {p tpos : Pos} {elts : List Expr} {kk : Nat} (hK : X.K = P.K) (hk : c.kl = P.kl) (hg : Gl X "enumerate") (hm : X.mg "enumerate" = none) (ha : PE X a (RE P c ta)) (h1 : isStar a = false) : PI X (.Tuple elts kk tpos) (.Call (.Name "enumerate" p) [a] [] pos) (RI P c (iEnm ta)) := by
  refine PI.imp (pi_enumB hg hm (pa_cons ha pa_nil (star_cons h1)) (star_cons h1)) fun σ H R ⟨g, R', A, h, i⟩ => ?_
  refine ⟨g, _, A, h, fun x g1 H1 q A1 => ?_⟩
  rcases q with ⟨r, xs, rfl, l, q⟩ | ⟨z, rfl, q⟩
  · rw [hk] at l
    have z := A1.ls l
    rw [hK]
    exact .inl ⟨r, xs, rfl, z, i _ _ _ q A1 _ j_enm⟩
  · exact .inr ⟨z, rfl, i _ _ _ q A1 _ j_enmS⟩
theorem gi_zip {p tpos : Pos} {elts : List Expr} {kk : Nat} (hK : X.K = P.K) (hk : c.kl = P.kl) (hg : Gl X "zip") (hm : X.mg "zip" = none) (ha : PE X a (RE P c ta)) (hb : PE X b (RE P c tb)) (h1 : isStar a = false) (h2 : isStar b = false) :
    PI X (.Tuple elts kk tpos) (.Call (.Name "zip" p) [a, b] [] pos) (RI P c (iZip ta tb)) := by
  refine PI.imp (pi_zip hg hm (pa_cons ha (pa_cons hb pa_nil (star_cons h2)) (star_cons h1)) (star_cons h1) (star_any (by simp [h2]))) fun σ H R ⟨g, R', A, h, i⟩ => ?_
  refine ⟨g, _, A, h, fun x g1 H1 q A1 => ⟨g1, _, A1, q, fun y g2 H2 q2 A2 => ?_⟩⟩
  obtain ⟨r1, r2, xs, ys, rfl, rfl, l1, l2, q⟩ := q2
  rw [hk] at l1 l2
  rw [hK]
  exact ⟨r1, r2, xs, ys, rfl, A2.ls l1, A2.ls l2, i _ _ _ q A2 _ j_zip⟩
end
end SW
end

section
set_option Elab.async false
set_option linter.all false
set_option maxRecDepth 100000
set_option maxHeartbeats 4000000
namespace SW
open PySem PySem.Spec PyProof.Rows L2
structure EnOk (P : Prm) (D' : En) (D : Ends) : Prop where
  nx : ∀ σ g H, D'.nx σ g → Ab P g H → D.nx σ H
  rt : ∀ v g H, D'.rt v g → Ab P g H → D.rt v H
  bk : ∀ σ g H, D'.bk σ g → Ab P g H → D.bk σ H
  ct : ∀ σ g H, D'.ct σ g → Ab P g H → D.ct σ H
def RS (P : Prm) (c : Cal) (t : TSt) : TS := fun D σ H => ∃ g D', Ab P g H ∧ t c D' σ g ∧ EnOk P D' D
def isComp : Expr → Bool
  | .ListComp .. | .SetComp .. | .DictComp .. => true
  | _ => false
theorem swap_no {e : Expr} {o : Option Expr} {l : Nat} {env : Env} (h : isComp e = false) : swapsWith e o l env = pure false := by
  cases e <;> first | rfl | (simp [isComp] at h)
def isTup : Expr → Bool
  | .Tuple .. => true
  | _ => false
theorem swapped_no {ts : List Expr} {e : Expr} {env : Env} (h : isTup e = false) : swappedStores ts e env = pure none := by
  unfold swappedStores
  split
  · rename_i hh
    split at hh
    · simp [isTup] at h
    · simp [isTup] at h
    · cases hh
  · rfl
theorem swapped_name {x : Str} {p : Pos} {e : Expr} {env : Env} : swappedStores [.Name x p] e env = pure none := by
  cases e <;> rfl
section
variable {P : Prm} {X : Cx} {c : Cal} {e a b o i : Expr} {es : List Expr} {ta tb te : T} {tl : TLs} {pos : Pos} {t u : TSt} {tt : TB} {st : Stmt} {sts : List Stmt}
theorem gs_nil : PSs X [] (RS P c sNext) := PSs.imp pss_nil fun D σ H ⟨g, D', A, h, k⟩ => k.nx _ _ _ h A
theorem gs_cons (h1 : PS X st (RS P c t)) (h2 : PSs X sts (RS P c u)) : PSs X (st :: sts) (RS P c (sSeq t u)) :=
  PSs.imp (pss_cons h1 h2) fun D σ H ⟨g, D', A, h, k⟩ => ⟨g, _, A, h, fun σ g H q A => ⟨g, D', A, q, k⟩, k.rt, k.bk, k.ct⟩
theorem gs_drop (he : PE X e (RE P c te)) (hn : isComp e = false) : PS X (.Expr e pos) (RS P c (sDrop te)) :=
  PS.imp (ps_expr he (swap_no hn)) fun D σ H ⟨g, D', A, h, k⟩ => ⟨g, _, A, h, fun v g H q A => k.nx _ _ _ q A⟩
theorem gs_ret (he : PE X e (RE P c te)) : PS X (.Return (some e) pos) (RS P c (sRet te)) :=
  PS.imp (ps_ret he) fun D σ H ⟨g, D', A, h, k⟩ => ⟨g, _, A, h, fun v g H q A => k.rt _ _ _ q A⟩
theorem gs_retN : PS X (.Return none pos) (RS P c sRetN) := PS.imp ps_retN fun D σ H ⟨g, D', A, h, k⟩ => k.rt _ _ _ h A
theorem gs_if {x y : List Stmt} (ht : PT X e (RB P c tt)) (h1 : PSs X x (RS P c t)) (h2 : PSs X y (RS P c u)) : PS X (.If e x y pos) (RS P c (sIf tt t u)) :=
  PS.imp (ps_if ht h1 h2) fun D σ H ⟨g, D', A, h, k⟩ => ⟨g, _, A, h, fun b g H q A => by
    cases b with
    | true => exact ⟨g, D', A, q, k⟩
    | false => exact ⟨g, D', A, q, k⟩⟩
theorem gs_brk : PS X (.Break pos) (RS P c sBrk) := PS.imp ps_break fun D σ H ⟨g, D', A, h, k⟩ => k.bk _ _ _ h A
theorem gs_pass : PS X (.Pass pos) (RS P c sNext) := PS.imp ps_pass fun D σ H ⟨g, D', A, h, k⟩ => k.nx _ _ _ h A
theorem gs_raise {n : Nat} (hE : c.er = botE) : PS X st (RS P c (sRaise n)) := PS.imp ps_never fun D σ H ⟨g, D', A, h, k⟩ => by
  unfold sRaise at h
  rw [hE] at h
  exact h
theorem gs_asg {tg : Expr} {tt : TTg} (he : PE X e (RE P c te)) (hg : PG X tg (RG P c tt)) (hn : isComp e = false) (hw : swappedStores [tg] e X.env = pure none) (hst : isStar tg = false) : PS X (.Assign [tg] e pos) (RS P c (sAsg te tt)) :=
  PS.imp (ps_asg he hg (swap_no hn) hw (by cases tg <;> first | rfl | (simp [isStar] at hst))) fun D σ H ⟨g, D', A, h, k⟩ => ⟨g, _, A, h, fun v g1 H q A1 => ⟨g1, _, A1, q, fun σ g H q A => k.nx _ _ _ q A⟩⟩
theorem gs_setAt (hK : X.K = P.K) (cl : Clss P) {f : Nat} {p' : Pos} (ho : PE X o (RE P c ta)) (he : PE X e (RE P c te)) (hn : isComp e = false) : PS X (.Assign [.Attribute o (anOf f) p'] e pos) (RS P c (sSetAt ta f te)) :=
  PS.imp (ps_fld ho he (swap_no hn)) fun D σ H ⟨g, D', A, h, k⟩ => ⟨g, _, A, h, fun v g1 H1 q A1 => ⟨g1, _, A1, q, fun x g2 H2 q2 A2 => by
    obtain ⟨p, cn, fs, ex, e1, hf, hl, q⟩ := q2
    obtain ⟨C, dx, z1, z2, z3⟩ := A2.ins e1
    rw [hK]
    have hf' := at_lt _ _ hf
    have z3' : ∀ p ∈ fs, p.1 < 21 := fun p hp => at_lt _ _ (z3 p hp)
    refine ⟨p, C, dx, nmF fs, ex, z2, cl.cl cn C z1, cl.na cn C f z1 hf, by simpa [nmF] using hl, k.nx _ _ _ q ?_⟩
    rw [← nmF_put hf' fs z3']
    exact A2.set e1 z2 (fun _ z => nomatch z) (fun _ _ z => nomatch z) fun _ => ⟨C, dx, z1, upd_same, putN_mem hf z3⟩⟩⟩
theorem gs_setIx (hu : X.A.units + 1 < cLine) {p' : Pos} (ho : PE X o (RE P c ta)) (hi : PE X i (RE P c tb)) (he : PE X e (RE P c te)) (hn : isComp e = false) : PS X (.Assign [.Subscript o i p'] e pos) (RS P c (sSetIx ta tb te)) := by
  refine ⟨fun pins s σ H D I ⟨g, D', A, h, k⟩ => ?_⟩
  refine wpAny_Assign_Subscript (thn (he.run pins s σ H (fun v H1 => ∃ g1, Ab P g1 H1 ∧ ta c σ g1 fun x g2 => tb c σ g2 fun y g3 => ∃ a, x = .ref a ∧
    ((∃ xs k j, y = .int k ∧ g3 a = some (.lst xs) ∧ ixN xs.length k = some j ∧ D'.nx σ (gu g3 a (.lst (xs.set j v)))) ∨ ∃ g4, dPut g3 a y v g4 ∧ D'.nx σ g4)) I ⟨g, _, A, h, fun v g1 H1 q A1 => ⟨g1, A1, q⟩⟩) fun r s1 ⟨v, H1, I1, rv, g1, A1, q1⟩ => ?_) (swap_no hn)
  refine thn (ho.run pins s1 σ H1 (fun x H2 => ∃ g2, Ab P g2 H2 ∧ tb c σ g2 fun y g3 => ∃ a, x = .ref a ∧
    ((∃ xs k j, y = .int k ∧ g3 a = some (.lst xs) ∧ ixN xs.length k = some j ∧ D'.nx σ (gu g3 a (.lst (xs.set j v)))) ∨ ∃ g4, dPut g3 a y v g4 ∧ D'.nx σ g4)) I1 ⟨g1, _, A1, q1, fun x g2 H2 q A2 => ⟨g2, A2, q⟩⟩) fun u s2 ⟨x, H2, I2, rx, g2, A2, q2⟩ => ?_
  refine thn (hi.run pins s2 σ H2 (fun y H3 => ∃ g3, Ab P g3 H3 ∧ ∃ a, x = .ref a ∧
    ((∃ xs k j, y = .int k ∧ g3 a = some (.lst xs) ∧ ixN xs.length k = some j ∧ D'.nx σ (gu g3 a (.lst (xs.set j v)))) ∨ ∃ g4, dPut g3 a y v g4 ∧ D'.nx σ g4)) I2 ⟨g2, _, A2, q2, fun y g3 H3 q A3 => ⟨g3, A3, q⟩⟩) fun iv s3 ⟨y, H3, I3, ry, g3, A3, a, ex, q3⟩ => ?_
  rcases q3 with ⟨xs, n, j, ey, el, hj, q⟩ | ⟨g4, d, q⟩
  · exact thn (set_list (X := X) pins s3 σ H3 x y v u iv r (fun H4 => D.nx σ H4) I3 rx ry rv ⟨a, xs, n, j, ex, ey, A3.lst el, hj, k.nx _ _ _ q (A3.setL el)⟩) fun _ s4 ⟨H4, I4, q4⟩ => ⟨σ, H4, I4, q4⟩
  · subst ex
    obtain rfl : u = Value.ref a := rx
    obtain ⟨H4, d', A4⟩ := A3.dput d
    exact d_setItem hu I3 d' ry rv fun s4 I4 => ⟨σ, H4, I4, k.nx _ _ _ q A4⟩
theorem passes_own {M : Model} {A : Around} {env : Env} {xe : Value → Shared → Prop} (h : xe = fun _ _ => False) : PassesOwn M A env xe := by
  subst h
  exact PassesOwn.never
theorem gs_while (hx : X.xe = fun _ _ => False) (ht : PT X e (RB P c tt)) (hb : PSs X sts (RS P c t)) : PS X (.While e sts [] pos) (RS P c (sWhile tt t)) := by
  refine PS.imp (ps_while (passes_own hx) ht hb) fun D σ H ⟨g, D', A, h, k⟩ => ?_
  obtain ⟨W, ⟨m0, w0⟩, turn⟩ := h
  refine ⟨fun m σ H => ∃ g, Ab P g H ∧ W m σ g, ⟨m0, g, A, w0⟩, ?_⟩
  rintro m σ1 H1 ⟨g1, A1, w1⟩
  refine ⟨g1, _, A1, turn m σ1 g1 w1, fun d g2 H2 q A2 => ?_⟩
  cases d with
  | true =>
    have ag : ∀ σ' g' H', (∃ m' g'', m' < m ∧ Sub g'' g' ∧ W m' σ' g'') → Ab P g' H' → ∃ m', m' < m ∧ ∃ g, Ab P g H' ∧ W m' σ' g := fun σ' g' H' ⟨m', g'', hm, hs, w⟩ A' => ⟨m', hm, g'', A'.sub hs, w⟩
    exact ⟨fun σ' H' => ∃ m', m' < m ∧ ∃ g, Ab P g H' ∧ W m' σ' g, fun σ' H' z => z, g2, _, A2, q, ag, k.rt, k.nx, ag⟩
  | false => exact k.nx _ _ _ q A2
theorem gs_for {tg iter : Expr} {src : TI} {tt : TTg} (hK : X.K = P.K) (hk : c.kl = P.kl) (hx : X.xe = fun _ _ => False) (hc : X.calm = true) (hi : PI X tg iter (RI P c src)) (hg : PG X tg (RG P c tt)) (hb : PSs X sts (RS P c t)) (hs : ∀ x, foldedSetIterable iter X.env x = pure x) :
    PS X (.For tg iter sts [] pos) (RS P c (sFor src tt t)) := by
  refine PS.imp (ps_for (passes_own hx) hc hi hg hb hs) fun D σ H ⟨g, D', A, h, k⟩ => ?_
  refine ⟨g, _, A, h, fun S g1 H1 q A1 J jok => ?_⟩
  obtain ⟨W, w0, turn⟩ := q
  refine ⟨fun i m σ H => m = S.len - i ∧ ∃ g, Ab P g H ∧ W i σ g, ⟨_, rfl, g1, A1, w0⟩, ?_⟩
  rintro i m σ2 H2 ⟨rfl, g2, A2, w2⟩
  obtain ⟨ok, tn⟩ := turn i σ2 g2 w2
  rw [hk] at ok
  by_cases hl : i < S.len
  · rw [if_pos hl] at tn
    refine .inr ⟨jok.go i g2 H2 A2 ok hl, fun σ' H' => ∃ g, Ab P g H' ∧ W (i + 1) σ' g, fun σ' H' ⟨g', A', w'⟩ => ⟨S.len - (i + 1), by omega, rfl, g', A', w'⟩, fun x H3 y => ?_⟩
    obtain ⟨g3, A3, q3⟩ := jok.yld i g2 H2 x H3 _ A2 ok hl tn y
    have ag : ∀ σ' g' H', (∃ g'', Sub g'' g' ∧ W (i + 1) σ' g'') → Ab P g' H' → ∃ g, Ab P g H' ∧ W (i + 1) σ' g := fun σ' g' H' ⟨g'', hs, w⟩ A' => ⟨g'', A'.sub hs, w⟩
    exact ⟨g3, _, A3, q3, fun σ4 g4 H4 q4 A4 => ⟨g4, _, A4, q4, ag, k.rt, k.nx, ag⟩⟩
  · rw [if_neg hl] at tn
    exact .inl ⟨jok.stop i g2 H2 A2 ok hl, k.nx _ _ _ tn A2⟩
/-! ### comprehensions -/
theorem lc_lo {src : TI} {tt : TTg} {tb' : TB} {own : List Nat} (hk : c.kl = P.kl) {σ : L2.St} {H : Hp} {Q : VK} (h : RE P c (eLc src tt tb' te own) σ H Q) :
    tLc (RI P c src) (RG P c tt) (RB P { c with er := botE } tb') (RE P { c with er := botE } te) own σ H Q := by
  obtain ⟨g, Q', A, h, i⟩ := h
  refine ⟨g, _, A, h, fun S g1 H1 q A1 J jok => ?_⟩
  intro D hD
  obtain ⟨W, w0, turn⟩ := q D (A1.fresh hD)
  refine ⟨fun i m H => m = S.len - i ∧ ∃ g acc, Ab P g H ∧ W i acc g, ⟨_, rfl, _, [], A1.newL hD, w0⟩, ?_⟩
  rintro n m H2 ⟨rfl, g2, acc, A2, w2⟩
  obtain ⟨ok, ed, tn⟩ := turn n acc g2 w2
  rw [hk] at ok
  by_cases hl : n < S.len
  · rw [if_pos hl] at tn
    refine .inr ⟨jok.go n g2 H2 A2 ok hl, fun H' => ∃ g acc, Ab P g H' ∧ W (n + 1) acc g, fun H' ⟨g', acc', A', w'⟩ => ⟨S.len - (n + 1), by omega, rfl, g', acc', A', w'⟩, fun x H3 y => ?_⟩
    obtain ⟨g3, A3, q3⟩ := jok.yld n g2 H2 x H3 _ A2 ok hl tn y
    refine ⟨g3, _, A3, q3, fun σ4 g4 H4 q4 A4 => ⟨q4.1, g4, _, A4, q4.2, fun d g5 H5 q5 A5 => ?_⟩⟩
    cases d with
    | true =>
      refine ⟨g5, _, A5, q5, fun y g6 H6 q6 A6 => ?_⟩
      obtain ⟨e6, hz, g7, hs, w7⟩ := q6
      exact ⟨acc, A6.lst e6, hz, g7, _, (A6.setL e6).sub hs, w7⟩
    | false =>
      obtain ⟨g7, hs, w7⟩ := q5
      exact ⟨g7, acc, A5.sub hs, w7⟩
  · rw [if_neg hl] at tn
    exact .inl ⟨jok.stop n g2 H2 A2 ok hl, i _ _ _ tn A2⟩
theorem g_lc {elt tg iter : Expr} {ifs : List Expr} {scope : Scope} {own : List (Str × Nat)} {src : TI} {tt : TTg} {tb' : TB} (hk : c.kl = P.kl) (hc : X.calm = true) (hN : X.N.Nodup) (hi : PI X tg iter (RI P c src)) (ok : BlkOk X.N X.env.scope scope own)
    (hg : ∀ (s : Shared) (H : Hp) (C : Addr) (cl : List (Str × Addr)) (fp : List Addr), PG (X.blk s H scope (compEnvC scope cl C X.env) fp) tg (RG P c tt))
    (ht : ∀ (s : Shared) (H : Hp) (C : Addr) (cl : List (Str × Addr)) (fp : List Addr), PTs (X.blk s H scope (compEnvC scope cl C X.env) fp) ifs (RB P { c with er := botE } tb'))
    (he : ∀ (s : Shared) (H : Hp) (C : Addr) (cl : List (Str × Addr)) (fp : List Addr), PE (X.blk s H scope (compEnvC scope cl C X.env) fp) elt (RE P { c with er := botE } te)) (hs : ∀ x, foldedSetIterable iter X.env x = pure x) :
    PE X (.ListComp elt [⟨tg, iter, ifs, 0⟩] scope pos) (RE P c (eLc src tt tb' te (own.map (·.2)))) :=
  PE.imp (pe_lc hc hN hi ok hg ht he hs) fun σ H Q h => lc_lo hk h
theorem gs_setLc {i : Nat} {x : Str} {p' spos : Pos} (hx : X.env.scope.names.lookup x = some .local) {elt tg iter : Expr} {ifs : List Expr} {scope : Scope} {own : List (Str × Nat)} {src : TI} {tt : TTg} {tb' : TB} (hk : c.kl = P.kl) (hc : X.calm = true) (hN : X.N.Nodup) (hy : X.N[i]? = some x)
    (hsw : swapsWith (.ListComp elt [⟨tg, iter, ifs, 0⟩] scope pos) (some (.Name x p')) spos.line X.env = pure true) (hi : PI X tg iter (RI P c src)) (ok : BlkOk X.N X.env.scope scope own)
    (hg : ∀ (s : Shared) (H : Hp) (C : Addr) (cl : List (Str × Addr)) (fp : List Addr), PG (X.blk s H scope (compEnvC scope cl C X.env) fp) tg (RG P c tt))
    (ht : ∀ (s : Shared) (H : Hp) (C : Addr) (cl : List (Str × Addr)) (fp : List Addr), PTs (X.blk s H scope (compEnvC scope cl C X.env) fp) ifs (RB P { c with er := botE } tb'))
    (he : ∀ (s : Shared) (H : Hp) (C : Addr) (cl : List (Str × Addr)) (fp : List Addr), PE (X.blk s H scope (compEnvC scope cl C X.env) fp) elt (RE P { c with er := botE } te)) (hs : ∀ x, foldedSetIterable iter X.env x = pure x) :
    PS X (.Assign [.Name x p'] (.ListComp elt [⟨tg, iter, ifs, 0⟩] scope pos) spos) (RS P c (sAsg (eLc src tt tb' te (own.map (·.2))) (gN i))) :=
  PS.imp (ps_setLc hc hN hy hx hsw hi ok hg ht he hs) fun D σ H ⟨g, D', A, h, k⟩ => by
    have z : RE P c (eLc src tt tb' te (own.map (·.2))) σ H fun v H' => D.nx (σ.set i (some v)) H' := ⟨g, _, A, h, fun v g' H' q A' => k.nx _ _ _ q A'⟩
    exact lc_lo hk z
end
end SW
end

section
set_option Elab.async false
set_option linter.all false
set_option maxRecDepth 100000
set_option maxHeartbeats 4000000
/-! A def's body as a reading, by a function; it is sound. -/
namespace SW
open PySem PySem.Spec PyProof.Rows L2
structure CE where
  sc : Scope
  N : List Str
  blk : Bool
  bis : List Str
  fns : List (Str × Nat)
  cls : List (Str × Nat × Nat)
  mts : List (Str × List (Nat × Nat))
  cst : List (Str × V)
  exc : List (Str × Nat)
structure CF where
  e : CE → Expr → Option T
  t : CE → Expr → Option TB
  s : CE → Stmt → Option TSt
def ixOf (N : List Str) (x : Str) : Option Nat := N.findIdx? (· == x)
theorem ixOf_get {N : List Str} {x : Str} {i : Nat} (h : ixOf N x = some i) : N[i]? = some x := by
  unfold ixOf at h
  rw [List.findIdx?_eq_some_iff_getElem] at h
  obtain ⟨hi, e, _⟩ := h
  rw [List.getElem?_eq_getElem hi]
  exact congrArg some (by simpa using e)
def isVis (sc : Scope) (x : Str) : Bool := match sc.names.lookup x with
  | some .local | some .cell | some .free => true
  | _ => false
def isGl (sc : Scope) (x : Str) : Bool := match sc.names.lookup x with
  | some .globalImplicit => true
  | _ => false
def special (x : Str) : Bool := x == ("__debug__" : Str) || x == ("__classdict__" : Str) || x == ("__name__" : Str)
/-- the slot of a name that is stored -/
def stIx (ce : CE) (x : Str) : Option Nat := match ce.sc.names.lookup x with
  | some .local => ixOf ce.N x
  | some .cell => if ce.blk then none else ixOf ce.N x
  | _ => none
def atIx (f : Str) : Option Nat := ixOf anL f
def cName (ce : CE) (x : Str) : Option T :=
  if special x then none
  else if isVis ce.sc x then (ixOf ce.N x).map eV
  else if isGl ce.sc x then (ce.cst.lookup x).map eC
  else none
def cConst : Const → Option V
  | .int i => some (.int i)
  | .bool b => some (.bl b)
  | .none => some .non
  | .str x => some (.str x)
  | _ => none
def boL (f : Expr → Option T) (op : BoolOp) : List Expr → Option T
  | [] => none
  | [a] => f a
  | a :: r => (f a).bind fun x => (boL f op r).map fun y => match op with
    | .And => eAnd x y
    | .Or => eOr x y
def twL (f : Expr → Option TB) (op : BoolOp) : List Expr → Option TB
  | [] => none
  | [a] => f a
  | a :: r => (f a).bind fun x => (twL f op r).map fun y => match op with
    | .And => tAnd x y
    | .Or => tOr x y
def arL (f : Expr → Option T) : List Expr → Option TLs
  | [] => some lNil
  | a :: r => if isStar a then none else (f a).bind fun x => (arL f r).map fun y => lCons x y
def chL (f : Expr → Option T) : List CmpOp → List Expr → Option (List (CmpOp × T))
  | [op], [b] => (f b).map fun x => [(op, x)]
  | op :: ops, b :: es => (f b).bind fun x => (chL f ops es).map fun r => (op, x) :: r
  | _, _ => none
def ssL (f : Stmt → Option TSt) : List Stmt → Option TSt
  | [] => some sNext
  | s :: r => (f s).bind fun x => (ssL f r).map fun y => sSeq x y
def nmL (ce : CE) : List Expr → Option (List Nat)
  | [] => some []
  | .Name x _ :: r => (stIx ce x).bind fun i => (nmL ce r).map fun is => i :: is
  | _ => none
def cTg (ce : CE) : Expr → Option TTg
  | .Name x _ => (stIx ce x).map gN
  | .Tuple es _ _ => (nmL ce es).map gTp
  | _ => none
def opO (f : Expr → Option T) : Option Expr → Option (Cal → L2.St → G → (Option Int → G → Prop) → Prop)
  | none => some oNone
  | some e => (f e).map oSome
def isSlice : Expr → Bool
  | .Slice .. => true
  | _ => false
def isSet : Expr → Bool
  | .Set .. => true
  | _ => false
def bi? (x : Str) : Option Bi :=
  if x = "len" then some .len else if x = "max" then some .max else if x = "min" then some .min else if x = "abs" then some .abs else if x = "sum" then some .sum
  else if x = "all" then some .all else none
def ty? (x : Str) : Option Bi :=
  if x = "int" then some .int else if x = "str" then some .str else if x = "list" then some .list else if x = "dict" then some .dict else none
def isi? (x : Str) : Option Bi :=
  if x = "int" then some .isint else if x = "bool" then some .isbool else if x = "str" then some .isstr else if x = "tuple" then some .istuple else if x = "list" then some .islist else none
def bmL : List Bm := [.append, .extend, .pop, .insert, .reverse, .get, .count, .join, .replace, .partition, .split, .rfind]
def isKnown : Expr → Bool
  | .Name x _ => x == ("known" : Str)
  | _ => false
def bm? (o : Expr) (m : Str) : Option Bm :=
  if m == ("pop" : Str) && isKnown o then some .popK else bmL.find? fun b => bmName b == m
def isBi (ce : CE) (x : Str) : Bool := isGl ce.sc x && decide (x ∈ ce.bis) && !special x
/-- list(zip(a, b)) -/
def lzip? (ce : CE) (x : Str) : List Expr → Option (Expr × Expr)
  | [.Call (.Name z _) [a, b] [] _] => if x == ("list" : Str) && z == ("zip" : Str) && isBi ce z && !isStar a && !isStar b then some (a, b) else none
  | _ => none
def cCallN (f : Expr → Option T) (ce : CE) (x : Str) (es : List Expr) : Option T :=
  if special x then none
  else if isGl ce.sc x then
    match ce.fns.lookup x with
    | some n => (arL f es).map fun a => eFn n a
    | none => match ce.cls.lookup x with
      | some (cn, n) => (arL f es).map fun a => eMk cn n a
      | none => if isBi ce x then
          match x == ("isinstance" : Str), es with
          | true, [e, .Name y _] => if isStar e || !isBi ce y then none else (isi? y).bind fun b => (f e).map fun t => eBi b (lCons t lNil)
          | true, _ => none
          | false, [] => none
          | false, e :: r => match lzip? ce x (e :: r) with
            | some ab => (f ab.1).bind fun u => (f ab.2).map fun v => eLzip u v
            | none => match bi? x with
              | some b => (arL f (e :: r)).map fun a => eBi b a
              | none => (ty? x).bind fun b => (arL f (e :: r)).map fun a => eBi b a
        else none
  else none
def cCallM (f : Expr → Option T) (ce : CE) (o : Expr) (m : Str) (apos pos : Pos) (es : List Expr) : Option T :=
  if baseOk o && decide (es.length < 30) && (apos.endLine == pos.line) then
    (f o).bind fun x => (arL f es).bind fun a => match ce.mts.lookup m with
      | some ms => some (eMt ms x a)
      | none => (bm? o m).map fun b => eBm b x a
  else none
def cSrc (f : Expr → Option T) (ce : CE) (tg : Expr) (it : Expr) : Option TI :=
  match it with
  | .Call (.Name x p) es [] pos =>
    if isBi ce x && (x == ("range" : Str)) then
      match es with
      | [a] => if isStar a then none else (f a).map fun u => iRng1 u
      | [a, b] => if isStar a || isStar b then none else (f a).bind fun u => (f b).map fun v => iRng2 u v
      | [a, b, d] => if isStar a || isStar b || isStar d then none else (f a).bind fun u => (f b).bind fun v => (f d).map fun w => iRng3 u v w
      | _ => none
    else if isBi ce x && (x == ("enumerate" : Str)) && isTup tg then
      match es with
      | [a] => if isStar a then none else (f a).map fun u => iEnm u
      | _ => none
    else if isBi ce x && (x == ("zip" : Str)) && isTup tg then
      match es with
      | [a, b] => if isStar a || isStar b then none else (f a).bind fun u => (f b).map fun v => iZip u v
      | _ => none
    else (f (.Call (.Name x p) es [] pos)).map fun u => iVal u
  | e => if isSet e then none else (f e).map fun u => iVal u
/-- a comprehension's own names -/
def ownOf (N : List Str) (scope : Scope) : List (Str × Nat) := scope.names.filterMap fun p => match p.2 with
  | .local | .cell => (ixOf N p.1).map fun i => (p.1, i)
  | _ => none
def ceB (ce : CE) (scope : Scope) : CE := { ce with sc := relS scope ce.sc, blk := true }
def cLc (r : CF) (ce : CE) (elt : Expr) (gs : List Comprehension) (scope : Scope) : Option T :=
  match gs with
  | [⟨tg, it, ifs, 0⟩] => if blkC ce.N ce.sc scope (ownOf ce.N scope) then
      (cSrc (r.e ce) ce tg it).bind fun src => (cTg (ceB ce scope) tg).bind fun g => (match ifs with
        | [] => some tYes
        | [t] => r.t (ceB ce scope) t
        | _ => none).bind fun tt => (r.e (ceB ce scope) elt).map fun te => eLc src g tt te ((ownOf ce.N scope).map fun p : Str × Nat => p.2)
    else none
  | _ => none
/-- the pairs of a display -/
def dspL (f : Expr → Option T) : List (Option Expr) → List Expr → Option (List (T × T))
  | [], [] => some []
  | some k :: ks, v :: vs => (f k).bind fun x => (f v).bind fun y => (dspL f ks vs).map fun r => (x, y) :: r
  | _, _ => none
def stepE (r : CF) (ce : CE) (e : Expr) : Option T :=
  match e with
  | .Name x _ => cName ce x
  | .Constant k _ _ => (cConst k).map eC
  | .BinOp a op b _ => (r.e ce a).bind fun x => (r.e ce b).map fun y => eBin op x y
  | .UnaryOp op a _ => match op with
    | .USub => (r.e ce a).map eNeg
    | .Not => (r.e ce a).map eNot
    | _ => none
  | .Compare a ops es _ => match ops, es with
    | [op], [b] => if behindInMarks op b then none else (r.e ce a).bind fun x => (r.e ce b).map fun y => eCmp op x y
    | op :: op' :: ops, b :: b' :: es => if lastMarks (op :: op' :: ops) (b :: b' :: es) then none else (r.e ce a).bind fun x => (chL (r.e ce) (op :: op' :: ops) (b :: b' :: es)).map fun y => eChn x y
    | _, _ => none
  | .BoolOp op es _ => boL (r.e ce) op es
  | .Tuple es _ _ => (arL (r.e ce) es).map eTup
  | .List es _ => (arL (r.e ce) es).map eLst
  | .Dict ks vs _ => match ks, vs with
    | [], [] => some eDict0
    | k :: ks, v :: vs => if (k :: ks).length ≤ 15 then (dspL (r.e ce) (k :: ks) (v :: vs)).map eDisp else none
    | _, _ => none
  | .Subscript a b _ => match b with
    | .Slice lo hi st _ => match st with
      | none => (r.e ce a).bind fun x => (opO (r.e ce) lo).bind fun l => (opO (r.e ce) hi).map fun h => eSl x l h
      | some _ => none
    | b => (r.e ce a).bind fun x => (r.e ce b).map fun y => eIx x y
  | .Attribute a f _ => if baseOk a then (atIx f).bind fun i => (r.e ce a).map fun x => eAt x i else none
  | .Call f es kws pos => match kws with
    | [] => match f with
      | .Name x _ => cCallN (r.e ce) ce x es
      | .Attribute o m apos => cCallM (r.e ce) ce o m apos pos es
      | _ => none
    | _ :: _ => none
  | .ListComp elt gs scope _ => cLc r ce elt gs scope
  | _ => none
def stepT (r : CF) (ce : CE) (e : Expr) : Option TB :=
  match e with
  | .UnaryOp op a _ => match op with
    | .Not => (r.t ce a).map tNot
    | _ => none
  | .BoolOp op es _ => twL (r.t ce) op es
  | .Compare a ops es _ => match ops, es with
    | [op], [b] => if behindInMarks op b then none else (r.e ce a).bind fun x => (r.e ce b).map fun y => tBl (eCmp op x y)
    | op :: op' :: ops, b :: b' :: es => if lastMarks (op :: op' :: ops) (b :: b' :: es) then none else (r.e ce a).bind fun x => (chL (r.e ce) (op :: op' :: ops) (b :: b' :: es)).map fun y => tBl (eChn x y)
    | _, _ => none
  | .Name x p => (r.e ce (.Name x p)).map tVal
  | .Call f es kws p => (r.e ce (.Call f es kws p)).map tVal
  | .Constant c k p => (r.e ce (.Constant c k p)).map tVal
  | _ => none
def cAsg (r : CF) (ce : CE) (tg : Expr) (e : Expr) (spos : Pos) : Option TSt :=
  match tg with
  | .Name x p => match e with
    | .ListComp elt gs scope pos => match ce.sc.names.lookup x, p.line == pos.line && !(scope.names.any fun y => y.1 == x && (y.2 == .local || y.2 == .cell)), gs with
      | some .local, true, [_] => (cLc r ce elt gs scope).bind fun t => (ixOf ce.N x).map fun i => sAsg t (gN i)
      | _, _, _ => none
    | e => if isComp e then none else (stIx ce x).bind fun i => (r.e ce e).map fun t => sAsg t (gN i)
  | .Tuple es _ _ => if isTup e || isComp e then none else (nmL ce es).bind fun is => (r.e ce e).map fun t => sAsg t (gTp is)
  | .Attribute o f _ => if isComp e then none else (atIx f).bind fun i => (r.e ce o).bind fun x => (r.e ce e).map fun t => sSetAt x i t
  | .Subscript o i _ => if isComp e || isSlice i then none else (r.e ce o).bind fun x => (r.e ce i).bind fun y => (r.e ce e).map fun t => sSetIx x y t
  | _ => none
def excOf (ce : CE) : Option Expr → Nat
  | some (.Call (.Name x _) _ _ _) => (ce.exc.lookup x).getD 0
  | _ => 0
def stepS (r : CF) (ce : CE) (s : Stmt) : Option TSt :=
  match s with
  | .Expr e _ => match e with
    | .Constant (.str _) _ _ => some sNext
    | e => if isComp e then none else (r.e ce e).map sDrop
  | .Return (some e) _ => (r.e ce e).map sRet
  | .Return none _ => some sRetN
  | .If t a b _ => (r.t ce t).bind fun x => (ssL (r.s ce) a).bind fun y => (ssL (r.s ce) b).map fun z => sIf x y z
  | .Assign tgs e pos => match tgs with
    | [tg] => cAsg r ce tg e pos
    | _ => none
  | .For tg it body orelse _ => match orelse with
    | [] => (cSrc (r.e ce) ce tg it).bind fun x => (cTg ce tg).bind fun g => (ssL (r.s ce) body).map fun b => sFor x g b
    | _ :: _ => none
  | .While t body orelse _ => match orelse with
    | [] => (r.t ce t).bind fun x => (ssL (r.s ce) body).map fun b => sWhile x b
    | _ :: _ => none
  | .Break _ => some sBrk
  | .Pass _ => some sNext
  | .Raise e _ _ => some (sRaise (excOf ce e))
  | _ => none
def cF : Nat → CF
  | 0 => ⟨fun _ _ => none, fun _ _ => none, fun _ _ => none⟩
  | n + 1 => ⟨stepE (cF n), stepT (cF n), stepS (cF n)⟩
/-- a def's body -/
def cBody (ce : CE) (b : List Stmt) : Option TSt := ssL ((cF 40).s ce) b

/-! ### it is sound -/
structure CtxOk (P : Prm) (c : Cal) (k : Nat) (X : Cx) (ce : CE) : Prop where
  K : X.K = P.K
  kl : c.kl = P.kl
  er : c.er = botE
  calm : X.calm = true
  xe : X.xe = fun _ _ => False
  kind : X.env.scope.kind = .function
  sc : X.env.scope = ce.sc
  N : X.N = ce.N
  nd : X.N.Nodup
  fn : ce.blk = false → ∀ x, X.fn x = true
  hr : Room (k + 1) X.A
  cl : Clss P
  bis : ∀ x, x ∈ ce.bis → X.mg x = none
  cst : ∀ x v, ce.cst.lookup x = some v → ∃ u, X.mg x = some u ∧ RelV v u
  fns : ∀ x f, ce.fns.lookup x = some f → ∃ fa, X.mg x = some (.ref fa) ∧ FnAt X P c k f fa
  cls : ∀ x cn f, ce.cls.lookup x = some (cn, f) → ∃ C fa, P.cls cn = some C ∧ X.mg x = some (.ref C) ∧ Mk X.K C fa ∧ FnAt X P c k f fa
  mts : ∀ m ms, ce.mts.lookup m = some ms → MtAt X P c k m ms
section
variable {P : Prm} {c : Cal} {k : Nat} {X : Cx} {ce : CE}
theorem CtxOk.hu (C : CtxOk P c k X ce) : X.A.units + 64 < cLine := by have := C.hr.un; omega
theorem CtxOk.gl (C : CtxOk P c k X ce) {x : Str} (h : isGl ce.sc x = true) : Gl X x := by
  unfold isGl at h
  split at h
  · rename_i e
    show X.env.scope.names.lookup x = _
    rw [C.sc]; exact e
  · cases h
theorem CtxOk.vis (C : CtxOk P c k X ce) {x : Str} (h : isVis ce.sc x = true) : Vis X.env.scope x := by
  unfold isVis at h
  rw [← C.sc] at h
  split at h
  · rename_i e; exact .inl e
  · rename_i e; exact .inr (.inl e)
  · rename_i e; exact .inr (.inr e)
  · cases h
theorem special_no {x : Str} (h : special x = false) : (x == ("__debug__" : Str)) = false ∧ (x == ("__classdict__" : Str)) = false ∧ x ≠ "__name__" := by
  unfold special at h
  rw [Bool.or_eq_false_iff, Bool.or_eq_false_iff] at h
  exact ⟨h.1.1, h.1.2, beq_eq_false_iff_ne.mp h.2⟩
theorem CtxOk.st (C : CtxOk P c k X ce) {x : Str} {i : Nat} (h : stIx ce x = some i) : X.N[i]? = some x ∧ Loc X.env.scope x ∧ (X.fn x = true ∨ X.env.scope.names.lookup x = some .local) := by
  unfold stIx at h
  rw [← C.sc, ← C.N] at h
  split at h
  · rename_i e; exact ⟨ixOf_get h, .inl e, .inr e⟩
  · rename_i e
    split at h
    · cases h
    · rename_i hb
      exact ⟨ixOf_get h, .inr e, .inl (C.fn (by simpa using hb) x)⟩
  · cases h
theorem CtxOk.blk (C : CtxOk P c k X ce) {scope : Scope} (hk : scope.kind = .function) (s : Shared) (H : Hp) (A : Addr) (cl : List (Str × Addr)) (fp : List Addr) : CtxOk P c k (X.blk s H scope (compEnvC scope cl A X.env) fp) (ceB ce scope) where
  K := C.K
  kl := C.kl
  er := C.er
  calm := C.calm
  xe := rfl
  kind := hk
  sc := by
    show relS scope X.env.scope = relS scope ce.sc
    rw [C.sc]
  N := C.N
  nd := C.nd
  fn := fun h => nomatch h
  hr := C.hr
  cl := C.cl
  bis := C.bis
  cst := C.cst
  fns := fun x f h => let ⟨fa, h1, h2⟩ := C.fns x f h; ⟨fa, h1, ⟨h2.ok, h2.kp⟩⟩
  cls := fun x cn f h => let ⟨A, fa, h1, h2, h3, h4⟩ := C.cls x cn f h; ⟨A, fa, h1, h2, h3, ⟨h4.ok, h4.kp⟩⟩
  mts := fun m ms h => let z := C.mts m ms h; ⟨fun cn f h1 B h2 => let ⟨fa, h3, h4⟩ := z.at_ cn f h1 B h2; ⟨fa, h3, ⟨h4.ok, h4.kp⟩⟩, z.ne⟩
end
/-- what a compiler is to keep -/
structure Good (P : Prm) (c : Cal) (k : Nat) (r : CF) : Prop where
  e : ∀ X ce e t, CtxOk P c k X ce → r.e ce e = some t → PE X e (RE P c t)
  t : ∀ X ce e t, CtxOk P c k X ce → r.t ce e = some t → PT X e (RB P c t)
  s : ∀ X ce s t, CtxOk P c k X ce → ce.blk = false → r.s ce s = some t → PS X s (RS P c t)
end SW
end

section
set_option Elab.async false
set_option linter.all false
set_option maxRecDepth 100000
set_option maxHeartbeats 4000000
/-! list(zip(a, b)) of two lists. -/
namespace SW
open PySem PySem.W PySem.Calls PyProof.Rows PyProof.V PySem.Spec
theorem zip_no_len : typeLookup (.type "zip") "__len__" = pure none := am_miss_of_fast (by decide +kernel)
theorem zip_no_hint : typeLookup (.type "zip") "__length_hint__" = pure none := am_miss_of_fast (by decide +kernel)
structure ZSt (h : Heap) (z TI TO i1 i2 l1 l2 S : Addr) (xs ys : Array Value) (i : Nat) : Prop where
  zs : (IsZip h z TI TO .none ∧ ∃ a b, IsPair h TO a b) ∨ ∃ T f oT, IsZipHeld h z TI TO T f ∧ h.get? T = some oT ∧ T ≠ z ∧ T ≠ i1 ∧ T ≠ i2 ∧ T ≠ S
  ti : IsPair h TI (.ref i1) (.ref i2)
  a1 : h.IsListIter i1 l1 i
  a2 : h.IsListIter i2 l2 i
  b1 : h.IsList l1 xs
  b2 : h.IsList l2 ys
/-- nothing but S is there twice -/
structure ZOff (S z TI TO i1 i2 l1 l2 : Addr) : Prop where
  z : z ≠ S
  TI : TI ≠ S
  TO : TO ≠ S
  i1 : i1 ≠ S
  i2 : i2 ≠ S
  l1 : l1 ≠ S
  l2 : l2 ≠ S
theorem ZSt.keep {h h' : Heap} {z TI TO i1 i2 l1 l2 S : Addr} {xs ys : Array Value} {i : Nat} (O : ZOff S z TI TO i1 i2 l1 l2) (k : ∀ b o, b ≠ S → h.get? b = some o → h'.get? b = some o) (st : ZSt h z TI TO i1 i2 l1 l2 S xs ys i) : ZSt h' z TI TO i1 i2 l1 l2 S xs ys i := by
  refine ⟨?_, k _ _ O.TI st.ti, st.a1.at fun o e => k _ o O.i1 e, st.a2.at fun o e => k _ o O.i2 e, ?_, ?_⟩
  · rcases st.zs with ⟨hz, a, b, ht⟩ | ⟨T, f, oT, hz, ht, n1, n2, n3, n4⟩
    · exact .inl ⟨k _ _ O.z hz, a, b, k _ _ O.TO ht⟩
    · exact .inr ⟨T, f, oT, k _ _ O.z hz, k _ _ n4 ht, n1, n2, n3, n4⟩
  · obtain ⟨o, ho, r⟩ := st.b1; exact ⟨o, k _ _ O.l1 ho, r⟩
  · obtain ⟨o, ho, r⟩ := st.b2; exact ⟨o, k _ _ O.l2 ho, r⟩
section
variable {prog : Program} {w : World} {A : Around} {E : Value → Shared → Prop} {s : Shared} {z TI TO i1 i2 l1 l2 S : Addr} {xs ys : Array Value} {i : Nat}
theorem nxtZ {x y : Value} {Q : Option Value → Shared → Prop} (D : ZipApart z TI TO i1 i2 l1 l2) (st : ZSt s.heap z TI TO i1 i2 l1 l2 S xs ys i) (hS : S < s.heap.objs.size) (hx : xs[i]? = some x) (hy : ys[i]? = some y)
    (hQ : ∀ h', ZSt h' z TI TO i1 i2 l1 l2 S xs ys (i + 1) → IsPair h' s.heap.objs.size x y → h'.objs.size = s.heap.objs.size + 1 → (∀ c o, c ≠ z → c ≠ TO → c ≠ i1 → c ≠ i2 → s.heap.get? c = some o → h'.get? c = some o) →
      Q (some (.ref s.heap.objs.size)) { s with heap := h' }) : wpAny (model prog w) A (pyNext (.ref z)) Q E s := by
  have lt : ∀ {c : Addr} {o : Obj}, s.heap.get? c = some o → s.heap.objs.size ≠ c := fun e => Nat.ne_of_gt (Heap.lt_size e)
  have il : ∀ {c l : Addr} {k : Nat}, s.heap.IsListIter c l k → s.heap.objs.size ≠ c := fun h => by obtain ⟨_, e, _⟩ := h; exact lt e
  have ll : ∀ {l : Addr} {vs : Array Value} {h' : Heap}, s.heap.IsList l vs → (∀ o, s.heap.get? l = some o → h'.get? l = some o) → h'.IsList l vs := fun h k => by obtain ⟨o, ho, r⟩ := h; exact ⟨o, k o ho, r⟩
  rcases st.zs with ⟨hz, a, b, ht⟩ | ⟨T, f, oT, hz, ht, n1, n2, n3, n4⟩
  · refine wpAny_pyNext_zip_item D hz st.ti ht st.a1 st.a2 st.b1 st.b2 hx hy fun h' g1 g2 g3 g4 g5 g6 g7 => ?_
    refine hQ h' ⟨.inr ⟨s.heap.objs.size, false, _, g1, g5, lt hz, il st.a1, il st.a2, Nat.ne_of_gt hS⟩, g7 _ _ D.TIz D.TITO D.TIi1 D.TIi2 st.ti, g3, g4, ll st.b1 fun o e => g7 _ o D.l1z D.l1TO D.l1i1 D.l1i2 e, ll st.b2 fun o e => g7 _ o D.l2z D.l2TO D.l2i1 D.l2i2 e⟩ g5 g6 g7
  · refine wpAny_pyNext_zip_item_held D hz ht st.ti st.a1 st.a2 st.b1 st.b2 hx hy fun h' g1 g3 g4 g5 g6 g7 => ?_
    refine hQ h' ⟨.inr ⟨T, true, oT, g1, g7 _ _ n1 n2 n3 ht, n1, n2, n3, n4⟩, g7 _ _ D.TIz D.TIi1 D.TIi2 st.ti, g3, g4, ll st.b1 fun o e => g7 _ o D.l1z D.l1i1 D.l1i2 e, ll st.b2 fun o e => g7 _ o D.l2z D.l2i1 D.l2i2 e⟩ g5 g6 fun c o c1 _ c3 c4 e => g7 c o c1 c3 c4 e
theorem finZ {Q : Option Value → Shared → Prop} (hh : A.handled = none) (D : ZipApart z TI TO i1 i2 l1 l2) (st : ZSt s.heap z TI TO i1 i2 l1 l2 S xs ys i) (hend : xs[i]? = none ∨ ys[i]? = none)
    (hQ : ∀ h', (∀ c o, c ≠ z → c ≠ TO → c ≠ i1 → c ≠ i2 → s.heap.get? c = some o → h'.get? c = some o) → Q none { s with heap := h' }) : wpAny (model prog w) A (pyNext (.ref z)) Q E s := by
  rcases st.zs with ⟨hz, a, b, ht⟩ | ⟨T, f, oT, hz, ht, n1, n2, n3, n4⟩
  · exact wpAny_pyNext_zip_end hh D hz st.ti ht st.a1 st.a2 st.b1 st.b2 hend hQ
  · exact wpAny_pyNext_zip_end_held hh D hz ht st.ti st.a1 st.a2 st.b1 st.b2 hend fun h' k => hQ h' fun c o c1 _ c3 c4 e => k c o c1 c3 c4 e
end
/-- the pairs that were made -/
structure MadeZ (xs ys : Array Value) (lo : Addr) (h : Heap) (as : List Addr) : Prop where
  rise : as.Pairwise (· < ·)
  above : ∀ a ∈ as, lo ≤ a
  pairs : ∀ (j : Nat) (a : Addr), as[j]? = some a → ∃ x y, xs[j]? = some x ∧ ys[j]? = some y ∧ IsPair h a x y
theorem MadeZ.there {xs ys : Array Value} {lo : Addr} {h : Heap} {as : List Addr} (g : MadeZ xs ys lo h as) {a : Addr} (ha : a ∈ as) : a < h.objs.size := by
  obtain ⟨j, hj⟩ := List.mem_iff_getElem?.mp ha
  obtain ⟨_, _, _, _, e⟩ := g.pairs j a hj
  exact Heap.lt_size e
section
variable {prog : Program} {w : World} {A : Around} {s : Shared} {R : Result → Shared → Prop} {z TI TO i1 i2 l1 l2 S : Addr} {xs ys : Array Value}
theorem loopZ (hh : A.handled = none) (D : ZipApart z TI TO i1 i2 l1 l2) (O : ZOff S z TI TO i1 i2 l1 l2) {lo : Addr} (zb : z < lo) (tb : TO < lo) (ib : i1 < lo) (jb : i2 < lo) (Sb : S < lo) (hn : min xs.size ys.size ≤ sizeLine) (res : Value) {h₁ : Heap}
    (hR : ∀ h' tk acc c as, (∀ b o, b ≠ S → b ≠ z → b ≠ TO → b ≠ i1 → b ≠ i2 → h₁.get? b = some o → h'.get? b = some o) → h'.get? S = some { cls := .type "list", dict := none, data := .seq acc c, slots := #[] } → as.length = min xs.size ys.size → MadeZ xs ys lo h' as →
      acc.toList = as.map Value.ref → R (.ok (.ret res)) { s with heap := h', toks := tk }) :
    ∀ (k i : Nat) (h : Heap) (tk c : Nat) (acc : Array Value) (as : List Addr), min xs.size ys.size - i = k → i ≤ min xs.size ys.size → ZSt h z TI TO i1 i2 l1 l2 S xs ys i →
      (∀ b o, b ≠ S → b ≠ z → b ≠ TO → b ≠ i1 → b ≠ i2 → h₁.get? b = some o → h.get? b = some o) →
      h.get? S = some { cls := .type "list", dict := none, data := .seq acc c, slots := #[] } → acc.toList = as.map Value.ref → as.length = i → MadeZ xs ys lo h as → lo ≤ h.objs.size →
      codeAny (model prog w) A (.builtin "list.extend.loop" ⟨[.ref S, .ref z, res], []⟩) R { s with heap := h, toks := tk } := by
  intro k
  induction k with
  | zero =>
    intro i h tk c acc as hk hi hst hkeep hS hacc hal hG hlo
    refine codeAny_builtin PySem.F.entry_extend_loop ?_
    rw [Around.under_plainId PySem.F.plain_extend_loop _]
    show wpAny _ A.in1 (pyNext (.ref z) >>= _) _ _ _
    have hend : xs[i]? = none ∨ ys[i]? = none := by
      rw [Array.getElem?_eq_none_iff, Array.getElem?_eq_none_iff]; omega
    refine wpAny_bind (finZ (s := { s with heap := h, toks := tk }) (A := A.in1) hh D hst hend fun h' he => ?_)
    refine wpAny_pure (hR h' tk acc c as (fun b o h1 h2 h3 h4 h5 e => he b o h2 h3 h4 h5 (hkeep b o h1 h2 h3 h4 h5 e)) (he S _ (Ne.symm O.z) (Ne.symm O.TO) (Ne.symm O.i1) (Ne.symm O.i2) hS) (by omega) ⟨hG.rise, hG.above, fun j a hj => ?_⟩ hacc)
    obtain ⟨x, y, e1, e2, e3⟩ := hG.pairs j a hj
    have hb := hG.above a (List.mem_of_getElem? hj)
    exact ⟨x, y, e1, e2, he a _ (Nat.ne_of_gt (Nat.lt_of_lt_of_le zb hb)) (Nat.ne_of_gt (Nat.lt_of_lt_of_le tb hb)) (Nat.ne_of_gt (Nat.lt_of_lt_of_le ib hb)) (Nat.ne_of_gt (Nat.lt_of_lt_of_le jb hb)) e3⟩
  | succ k ih =>
    intro i h tk c acc as hk hi hst hkeep hS hacc hal hG hlo
    have hlt : i < min xs.size ys.size := by omega
    have hsz : acc.size = i := by rw [← Array.length_toList, hacc, List.length_map, hal]
    have hx : xs[i]? = some xs[i] := Array.getElem?_eq_getElem (by omega)
    have hy : ys[i]? = some ys[i] := Array.getElem?_eq_getElem (by omega)
    refine codeAny_builtin PySem.F.entry_extend_loop ?_
    rw [Around.under_plainId PySem.F.plain_extend_loop _]
    show wpAny _ A.in1 (pyNext (.ref z) >>= _) _ _ _
    refine wpAny_bind (nxtZ (s := { s with heap := h, toks := tk }) (S := S) D hst (Heap.lt_size hS) hx hy fun h' hst' ht hz hkp => ?_)
    dsimp only at ht hz hkp ⊢
    have hS' := hkp S _ (Ne.symm O.z) (Ne.symm O.TO) (Ne.symm O.i1) (Ne.symm O.i2) hS
    have up : ∀ b o, b ≠ S → h'.get? b = some o → (h'.update S (Obj.mapSeq (·.push (Value.ref h.objs.size)))).get? b = some o := fun b o hb e => (Heap.get?_update_other _ _ (Ne.symm hb)).trans e
    have hSl : S < h.objs.size := Heap.lt_size hS
    show wpAny _ A.in1 (updateSeq S (·.push (Value.ref h.objs.size)) >>= _) _ _ _
    refine wpAny_bind ?_
    refine wpAny_updateSeq hS' rfl (wpAny_pure ⟨plainId_quiet PySem.F.plain_extend_loop _, ih (i + 1) _ tk _ (acc.push (Value.ref h.objs.size)) (as ++ [h.objs.size]) (by omega) hlt (hst'.keep O up)
      (fun b o h1 h2 h3 h4 h5 e => up b o h1 (hkp b o h2 h3 h4 h5 (hkeep b o h1 h2 h3 h4 h5 e))) (Heap.get?_update_self _ hS' rfl) (by rw [Array.toList_push, hacc, List.map_append]; rfl) (by rw [List.length_append, hal]; rfl) ⟨?_, ?_, ?_⟩ ?_⟩) (by rw [hsz]; omega) (by show (acc.push (Value.ref h.objs.size)).size ≤ sizeLine + 1; rw [Array.size_push, hsz]; omega)
    · refine List.pairwise_append.mpr ⟨hG.rise, List.pairwise_singleton _ _, fun a ha b hb => ?_⟩
      rw [List.mem_singleton.mp hb]
      exact hG.there ha
    · intro a ha
      rcases List.mem_append.mp ha with ha | ha
      · exact hG.above a ha
      · rw [List.mem_singleton.mp ha]; exact hlo
    · intro j b hj
      rcases Nat.lt_trichotomy j as.length with h1 | h1 | h1
      · rw [List.getElem?_append_left h1] at hj
        obtain ⟨x, y, e1, e2, e3⟩ := hG.pairs j b hj
        have hb := hG.above b (List.mem_of_getElem? hj)
        exact ⟨x, y, e1, e2, up b _ (Nat.ne_of_gt (Nat.lt_of_lt_of_le Sb hb)) (hkp b _ (Nat.ne_of_gt (Nat.lt_of_lt_of_le zb hb)) (Nat.ne_of_gt (Nat.lt_of_lt_of_le tb hb)) (Nat.ne_of_gt (Nat.lt_of_lt_of_le ib hb)) (Nat.ne_of_gt (Nat.lt_of_lt_of_le jb hb)) e3)⟩
      · subst h1
        have hb : h.objs.size = b := by simpa using hj
        subst hb
        rw [hal]
        exact ⟨_, _, hx, hy, up _ _ (Nat.ne_of_gt hSl) ht⟩
      · have hnone : (as ++ [h.objs.size])[j]? = none := List.getElem?_eq_none (by rw [List.length_append, List.length_singleton]; omega)
        rw [hnone] at hj; cases hj
    · have e : (h'.update S (Obj.mapSeq (·.push (Value.ref h.objs.size)))).get? h.objs.size = _ := up _ _ (Nat.ne_of_gt hSl) ht
      exact Nat.le_of_lt (Nat.lt_of_le_of_lt hlo (Heap.lt_size e))
end
section
variable {prog : Program} {w : World} {A : Around} {E : Value → Shared → Prop} {s : Shared} {z TI TO i1 i2 l1 l2 : Addr} {xs ys : Array Value}
theorem extZ {R : Result → Shared → Prop} (hh : A.handled = none) (D : ZipApart z TI TO i1 i2 l1 l2) (S : Addr) (O : ZOff S z TI TO i1 i2 l1 l2) (res : Value) (c₀ : Nat) (hS : s.heap.get? S = some { cls := .type "list", data := .seq #[] c₀ })
    (hz : IsZip s.heap z TI TO .none) (hTI : IsPair s.heap TI (.ref i1) (.ref i2)) {a b : Value} (hTO : IsPair s.heap TO a b) (h1 : s.heap.IsListIter i1 l1 0) (h2 : s.heap.IsListIter i2 l2 0) (hl1 : s.heap.IsList l1 xs) (hl2 : s.heap.IsList l2 ys)
    (hR : ∀ h' tk acc c as, (∀ b o, b ≠ S → b ≠ z → b ≠ TO → b ≠ i1 → b ≠ i2 → s.heap.get? b = some o → h'.get? b = some o) → h'.get? S = some { cls := .type "list", dict := none, data := .seq acc c, slots := #[] } → as.length = min xs.size ys.size → MadeZ xs ys s.heap.objs.size h' as →
      acc.toList = as.map Value.ref → R (.ok (.ret res)) { s with heap := h', toks := tk }) (hn : min xs.size ys.size ≤ sizeLine) :
    wpAny (model prog w) A.in1 (Builtin.List.listExtendWith (.ref S) (.ref z) res)
      (fun fin s' => match fin with | .done f => R (.ok f) s' | .again c' => c'.quiet = true ∧ codeAny (model prog w) A c' R s') (fun e s' => R (.error e) s') s := by
  have hT : s.TypeIs (.ref z) "zip" := ⟨_, hz, rfl⟩
  have il : ∀ {c l : Addr} {k : Nat}, s.heap.IsListIter c l k → c < s.heap.objs.size := fun h => by obtain ⟨_, e, _⟩ := h; exact Heap.lt_size e
  unfold Builtin.List.listExtendWith
  refine wpAny_bind (wpAny_typeOf hT ?_)
  have e1 : Builtin.List.listSameRef (.ref S) (.ref z) = false := by simp [Builtin.List.listSameRef, Ne.symm O.z]
  have e2 : (Value.type "zip" == Value.type "list") = false := by decide
  have e3 : (Value.type "zip" == Value.type "tuple") = false := by decide
  simp only [e1, e2, e3, Bool.or_false, Bool.false_eq_true, if_false]
  refine wpAny_bind (wpAny_pyIter_zip hz ?_)
  refine wpAny_bind (wpAny_holding ?_)
  unfold Builtin.List.listLengthHint
  refine wpAny_bind (wpAny_specialOf hT zip_no_len ?_)
  show wpAny _ A.in1 (specialOf (Value.ref z) (Str.ofString "__length_hint__") >>= _) _ _ _
  refine wpAny_bind (wpAny_specialOf hT zip_no_hint ?_)
  refine wpAny_pure ?_
  show wpAny _ A.in1 (rule "list.extend.makes-room" >>= fun _ => Builtin.List.listTouch (.ref S) >>= fun _ =>
    again (.builtin "list.extend.loop" ⟨[.ref S, .ref z, res], []⟩)) _ _ _
  refine wpAny_bind (wpAny_rule ?_)
  refine wpAny_bind ?_
  show wpAny _ A.in1 (updateSeq S (·.push .none) >>= fun _ => updateSeq S (·.pop)) _ _ _
  refine wpAny_bind (wpAny_updateSeq hS rfl ?_)
  have hS₂ := Heap.get?_update_self (Obj.mapSeq (·.push Value.none)) hS rfl
  refine wpAny_updateSeq (hz := by seq_fits) hS₂ rfl ?_
  have hS₃ := Heap.get?_update_self (Obj.mapSeq (·.pop)) hS₂ rfl
  have oth : ∀ b o, b ≠ S → s.heap.get? b = some o → ((s.heap.update S (Obj.mapSeq (·.push Value.none))).update S (Obj.mapSeq (·.pop))).get? b = some o :=
    fun b o hb e => (Heap.get?_update_other _ _ (Ne.symm hb)).trans ((Heap.get?_update_other _ _ (Ne.symm hb)).trans e)
  have hsz : s.heap.objs.size ≤ ((s.heap.update S (Obj.mapSeq (·.push Value.none))).update S (Obj.mapSeq (·.pop))).objs.size := by simp
  refine wpAny_pure ⟨plainId_quiet PySem.F.plain_extend_loop _, ?_⟩
  refine loopZ (s := s) (h₁ := s.heap) (lo := s.heap.objs.size) hh D O (Heap.lt_size hz) (Heap.lt_size hTO) (il h1) (il h2) (Heap.lt_size hS) hn res hR
    _ 0 _ _ _ #[] [] rfl (Nat.zero_le _) (ZSt.keep O oth ⟨.inl ⟨hz, _, _, hTO⟩, hTI, h1, h2, hl1, hl2⟩) (fun b o h1 _ _ _ _ e => oth b o h1 e) hS₃ rfl rfl
    ⟨List.Pairwise.nil, (fun _ ha => nomatch ha), (fun j a hj => by simp at hj)⟩ hsz
theorem initZ {R : Result → Shared → Prop} (hh : A.handled = none) (D : ZipApart z TI TO i1 i2 l1 l2) (S : Addr) (O : ZOff S z TI TO i1 i2 l1 l2) (hS : s.heap.get? S = some { cls := .type "list", data := .seq #[] })
    (hz : IsZip s.heap z TI TO .none) (hTI : IsPair s.heap TI (.ref i1) (.ref i2)) {a b : Value} (hTO : IsPair s.heap TO a b) (h1 : s.heap.IsListIter i1 l1 0) (h2 : s.heap.IsListIter i2 l2 0) (hl1 : s.heap.IsList l1 xs) (hl2 : s.heap.IsList l2 ys)
    (hR : ∀ h' tk acc c as, (∀ b o, b ≠ S → b ≠ z → b ≠ TO → b ≠ i1 → b ≠ i2 → s.heap.get? b = some o → h'.get? b = some o) → h'.get? S = some { cls := .type "list", dict := none, data := .seq acc c, slots := #[] } → as.length = min xs.size ys.size → MadeZ xs ys s.heap.objs.size h' as →
      acc.toList = as.map Value.ref → R (.ok (.ret .none)) { s with heap := h', toks := tk }) (hn : min xs.size ys.size ≤ sizeLine) :
    wpAny (model prog w) A.in1 (Builtin.«list.__init__» ⟨[.ref S, .ref z], []⟩)
      (fun fin s' => match fin with | .done f => R (.ok f) s' | .again c' => c'.quiet = true ∧ codeAny (model prog w) A c' R s') (fun e s' => R (.error e) s') s := by
  show wpAny _ A.in1 (do let old ← Builtin.List.listItems (.ref S); Builtin.List.listUpdate (.ref S) (fun _ => #[]); letGo old.toList.reverse; Builtin.List.listExtendWith (.ref S) (.ref z) .none) _ _ s
  refine wpAny_bind ?_
  unfold Builtin.List.listItems
  refine wpAny_bind (wpAny_seqItems hS rfl (wpAny_pure ?_))
  show wpAny _ A.in1 (updateSeq S (fun _ => #[]) >>= fun _ => letGo (#[] : Array Value).toList.reverse >>= fun _ => Builtin.List.listExtendWith (.ref S) (.ref z) .none) _ _ s
  refine wpAny_bind (wpAny_updateSeq hS rfl ?_)
  have hS₂ := Heap.get?_update_self (Obj.mapSeq (fun _ => (#[] : Array Value))) hS rfl
  have oth : ∀ b o, b ≠ S → s.heap.get? b = some o → (s.heap.update S (Obj.mapSeq (fun _ => (#[] : Array Value)))).get? b = some o :=
    fun b o hb e => (Heap.get?_update_other _ _ (Ne.symm hb)).trans e
  have K := ZSt.keep O oth ⟨.inl ⟨hz, _, _, hTO⟩, hTI, h1, h2, hl1, hl2⟩
  refine wpAny_bind (wpAny_letGo ?_)
  have hsz : (s.heap.update S (Obj.mapSeq (fun _ => (#[] : Array Value)))).objs.size = s.heap.objs.size := by simp
  refine extZ hh D S O .none _ hS₂ (oth _ _ O.z hz) (oth _ _ O.TI hTI) (oth _ _ O.TO hTO) K.a1 K.a2 K.b1 K.b2 (fun h' tk acc c as k e1 e2 e3 e4 => ?_) hn
  refine hR h' tk acc c as (fun b o h1 h2 h3 h4 h5 e => k b o h1 h2 h3 h4 h5 (oth b o h1 e)) e1 e2 ?_ e4
  have := e3
  dsimp only at this
  rw [hsz] at this
  exact this
/-- list(z) -/
theorem listZ {Q : Value → Shared → Prop} (hh : A.handled = none) (D : ZipApart z TI TO i1 i2 l1 l2)
    (hz : IsZip s.heap z TI TO .none) (hTI : IsPair s.heap TI (.ref i1) (.ref i2)) {a b : Value} (hTO : IsPair s.heap TO a b) (h1 : s.heap.IsListIter i1 l1 0) (h2 : s.heap.IsListIter i2 l2 0) (hl1 : s.heap.IsList l1 xs) (hl2 : s.heap.IsList l2 ys) (hn : min xs.size ys.size ≤ sizeLine)
    (hQ : ∀ h' tk acc c as, (∀ b o, b ≠ z → b ≠ TO → b ≠ i1 → b ≠ i2 → s.heap.get? b = some o → h'.get? b = some o) → h'.get? s.heap.objs.size = some { cls := .type "list", dict := none, data := .seq acc c, slots := #[] } → as.length = min xs.size ys.size → MadeZ xs ys (s.heap.objs.size + 1) h' as →
      acc.toList = as.map Value.ref → Q (.ref s.heap.objs.size) { s with heap := h', toks := tk }) :
    wpAny (model prog w) A (call (.type "list") [.ref z]) Q E s := by
  have il : ∀ {c l : Addr} {k : Nat}, s.heap.IsListIter c l k → c ≠ s.heap.objs.size := fun h => by obtain ⟨_, e, _⟩ := h; exact Nat.ne_of_lt (Heap.lt_size e)
  have ll : ∀ {l : Addr} {vs : Array Value}, s.heap.IsList l vs → l ≠ s.heap.objs.size := fun h => by obtain ⟨_, e, _⟩ := h; exact Nat.ne_of_lt (Heap.lt_size e)
  have O : ZOff s.heap.objs.size z TI TO i1 i2 l1 l2 := ⟨Nat.ne_of_lt (Heap.lt_size hz), Nat.ne_of_lt (Heap.lt_size hTI), Nat.ne_of_lt (Heap.lt_size hTO), il h1, il h2, ll hl1, ll hl2⟩
  have up : ∀ b o, s.heap.get? b = some o → (s.heap.push { cls := .type "list", data := .seq #[] }).get? b = some o := fun b o e => Heap.get?_push_of_some _ e
  refine callType_codes (Q₁ := fun obj s₁ => obj = .ref s.heap.objs.size ∧ s₁ = { s with heap := s.heap.push { cls := .type "list", data := .seq #[] } }) F.called_list (F.typeCall_list_1 _) F.entry_list_init
    (code_list_new _ ⟨rfl, rfl⟩) fun obj s₁ h₁ => ?_
  obtain ⟨rfl, rfl⟩ := h₁
  have hS : (s.heap.push { cls := .type "list", data := .seq #[] }).get? s.heap.objs.size = some { cls := .type "list", data := .seq #[] } := Heap.get?_push_size _ rfl
  have K := ZSt.keep (h' := s.heap.push { cls := .type "list", data := .seq #[] }) O (fun b o _ e => up b o e) ⟨.inl ⟨hz, _, _, hTO⟩, hTI, h1, h2, hl1, hl2⟩
  refine ⟨⟨_, hS, rfl⟩, F.args_list_init_2 _ _, initZ (A := A.in1) (s := { s with heap := s.heap.push { cls := .type "list", data := .seq #[] } }) (R := wants (fun r s₂ => r = Value.none ∧ Q (Value.ref s.heap.objs.size) s₂) E) (show A.in1.handled = none from hh) D _ O hS (up _ _ hz) (up _ _ hTI) (up _ _ hTO) K.a1 K.a2 K.b1 K.b2 (fun h' tk acc c as k e1 e2 e3 e4 => ?_) hn⟩
  refine ⟨rfl, hQ h' tk acc c as (fun b o h1 h2 h3 h4 e => k b o (Nat.ne_of_lt (Heap.lt_size e)) h1 h2 h3 h4 (up b o e)) e1 e2 ?_ e4⟩
  have := e3
  dsimp only at this
  rw [Heap.size_push] at this
  exact this
end
end SW
end

section
set_option Elab.async false
set_option linter.all false
set_option maxRecDepth 100000
set_option maxHeartbeats 4000000
/-! list(zip(a, b)), as a reading. -/
namespace SW
open PySem PySem.Spec PyProof.Rows L2
/-- new tuples on the hand layer's heap -/
def zipUp : Hp → List (V × V) → List Addr → Hp
  | H, p :: ps, a :: as => zipUp (upd H a (.tup [p.1, p.2])) ps as
  | H, _, _ => H
theorem zipUp_ne : ∀ {ps : List (V × V)} {as : List Addr} {H : Hp} {b : Addr}, b ∉ as → zipUp H ps as b = H b
  | [], [], H, b, _ => rfl
  | [], _ :: _, H, b, _ => rfl
  | _ :: _, [], H, b, _ => rfl
  | p :: ps, a :: as, H, b, h => by
    unfold zipUp
    rw [List.mem_cons, not_or] at h
    rw [zipUp_ne h.2, upd_ne h.1]
theorem zipUp_at : ∀ {ps : List (V × V)} {as : List Addr} {H : Hp} {j : Nat} {a : Addr} {p : V × V}, as.Nodup → as[j]? = some a → ps[j]? = some p → zipUp H ps as a = some (.tup [p.1, p.2])
  | [], as, H, j, a, p, _, _, h => by simp at h
  | _ :: _, [], H, j, a, p, _, h, _ => by simp at h
  | q :: ps, b :: as, H, 0, a, p, nd, h1, h2 => by
    simp at h1 h2
    subst h1 h2
    rw [List.nodup_cons] at nd
    unfold zipUp
    rw [zipUp_ne nd.1, upd_same]
  | q :: ps, b :: as, H, j + 1, a, p, nd, h1, h2 => by
    rw [List.nodup_cons] at nd
    unfold zipUp
    exact zipUp_at nd.2 (by simpa using h1) (by simpa using h2)
theorem zip_abs {P : Prm} : ∀ {ps : List (V × V)} {as : List Addr} {H : Hp} {g : G} {K : List Addr → G → Prop}, Ab P g H → as.Nodup → (∀ a ∈ as, H a = none) → as.length = ps.length → zipNew ps g K → ∃ g', K as g' ∧ Ab P g' (zipUp H ps as)
  | [], [], H, g, K, A, _, _, _, h => ⟨g, h, A⟩
  | [], _ :: _, _, _, _, _, _, _, h, _ => by simp at h
  | _ :: _, [], _, _, _, _, _, _, h, _ => by simp at h
  | p :: ps, a :: as, H, g, K, A, nd, fr, hl, h => by
    rw [List.nodup_cons] at nd
    have ha := fr a List.mem_cons_self
    have h2 := h a (A.fresh ha)
    obtain ⟨g', k, A'⟩ := zip_abs (A.newU (xs := [p.1, p.2]) ha) nd.2 (fun b hb => by
      have hne : b ≠ a := fun z => nd.1 (z ▸ hb)
      rw [upd_ne hne]; exact fr b (List.mem_cons_of_mem _ hb)) (by simpa using hl) h2
    exact ⟨g', k, A'⟩
theorem MadeZ.nat {xs ys : Array Value} {lo : Addr} {h : Heap} {as : List Addr} (g : MadeZ xs ys lo h as) {b : Addr} (hm : b ∈ as) : @LE.le Nat _ lo b := g.above b hm
section
variable {P : Prm} {X : Cx} {c : Cal} {a b : Expr} {ta tb : T} {pos : Pos}
theorem vals_refs' : ∀ bs : List Addr, Vals (bs.map V.ref) (bs.map Value.ref)
  | [] => .nil
  | _ :: r => .cons rfl (vals_refs' r)
theorem nodup_lt {as : List Addr} (h : as.Pairwise (· < ·)) : as.Nodup := h.imp fun h => Nat.ne_of_lt h
theorem g_lzip (hK : X.K = P.K) (hk : c.kl = P.kl) (hcalm : X.calm = true) {p p2 pos2 : Pos} (hgl : Gl X "list") (hml : X.mg "list" = none) (hgz : Gl X "zip") (hmz : X.mg "zip" = none)
    (ha : PE X a (RE P c ta)) (hb : PE X b (RE P c tb)) (h1 : isStar a = false) (h2 : isStar b = false) :
    PE X (.Call (.Name "list" p) [.Call (.Name "zip" p2) [a, b] [] pos2] [] pos) (RE P c (eLzip ta tb)) := by
  refine ⟨fun pins s σ H Q I ⟨g, Q', A, h, i⟩ => ?_⟩
  refine wpAny_Call_Name_kw (ld_blt I hgl hml PyProof.Rows.boot_list ?_)
  refine PyProof.Rows.callWith_type1 ?_ (star_cons rfl) (star_any rfl)
  rw [star_cons rfl]
  show wpAny _ _ (spliced ((false, eval (.Call (.Name "zip" p2) [a, b] [] pos2) X.env) :: backTo pos (starEach [] X.env))) _ _ s
  refine Calls.spliced_cons ?_
  have args := (pa_cons ha (pa_cons hb pa_nil (star_cons h2)) (star_cons h1)).run pos2 pins s σ H (fun vs H2 => ∃ g2 x y, vs = [x, y] ∧ Ab P g2 H2 ∧ ∃ p q xs ys, x = .ref p ∧ y = .ref q ∧ Ls c.kl g2 p xs ∧ Ls c.kl g2 q ys ∧
    zipNew (xs.zip ys) g2 fun as g3 => ∀ D, g3 D = none → Q' (.ref D) (gu g3 D (.lst (as.map V.ref)))) I
    ⟨g, _, A, h, fun x g1 H1 q1 A1 => ⟨g1, _, A1, q1, fun y g2 H2 q2 A2 => ⟨g2, x, y, rfl, A2, q2⟩⟩⟩
  refine wpAny_Call_Name_kw (ld_blt I hgz hmz PyProof.Rows.boot_zip (PyProof.Rows.callWith_type1 (thn args fun us s1 ⟨vs, H1, I1, r1, q1⟩ => ?_) (star_cons h1) (star_any (by simp [h2]))))
  obtain ⟨g2, x, y, rfl, A2, la, lb, xs, ys, rfl, rfl, e1, e2, zn⟩ := q1
  cases r1 with
  | cons ra rr =>
    cases rr with
    | cons rb rr =>
      cases rr
      cases ra
      cases rb
      rw [hk] at e1 e2
      have q1 := A2.ls e1
      have q2 := A2.ls e2
      rw [← hK] at q1 q2
      obtain ⟨its, rv, p1, z1⟩ := I1.list q1
      obtain ⟨its2, rv2, p2', z2⟩ := I1.list q2
      have lt1 : la < s1.heap.objs.size := p1.lt
      have lt2 : lb < s1.heap.objs.size := p2'.lt
      refine call_zip_2 p1.isList p2'.isList fun h' hz hTI hTO hi1 hi2 hsz hkp => ?_
      refine Calls.spliced_nil ?_
      have kl : ∀ {l : Addr} {vs : Array Value}, s1.heap.IsList l vs → h'.IsList l vs := fun h => by obtain ⟨o, ho, r⟩ := h; exact ⟨o, hkp _ o ho, r⟩
      have l1 := rv.length
      have l2 := rv2.length
      refine listZ (s := { s1 with heap := h' }) (I1.ok.hd hcalm) (PySem.W.ktu_apart s1.heap.objs.size la lb lt1 lt2) hz hTI hTO hi1 hi2 (kl p1.isList) (kl p2'.isList) (by simp only [List.size_toArray]; omega) ?_
      intro h3 tk acc cc as kp eD hal M hacc
      dsimp only at kp eD M ⊢
      rw [hsz] at M eD ⊢
      have base : ∀ n, s1.heap.objs.size ≤ s1.heap.objs.size + n := fun n => Nat.le_add_right _ _
      have kp1 : ∀ b o, s1.heap.get? b = some o → h3.get? b = some o := fun b o e => by
        have lt := Heap.lt_size e
        refine kp b o ?_ ?_ ?_ ?_ (hkp b o e)
        · exact Nat.ne_of_lt (Nat.lt_of_lt_of_le lt (base 4))
        · exact Nat.ne_of_lt (Nat.lt_of_lt_of_le lt (base 3))
        · exact Nat.ne_of_lt lt
        · exact Nat.ne_of_lt (Nat.lt_of_lt_of_le lt (base 1))
      have hlz : as.length = (xs.zip ys).length := by rw [hal, List.length_zip]; simp only [List.size_toArray]; omega
      have frs : ∀ b ∈ as, H1 b = none := fun b hb => I1.hok.fresh (show @LE.le Nat _ s1.heap.objs.size b by have := M.nat hb; omega)
      obtain ⟨g3, kq, A3⟩ := zip_abs A2 (nodup_lt M.rise) frs hlz zn
      generalize hD : s1.heap.objs.size + 5 = D at *
      have hDa : D ∉ as := fun hm => by have := M.nat hm; omega
      have frD : zipUp H1 (xs.zip ys) as D = none := by rw [zipUp_ne hDa]; exact I1.hok.fresh (show @LE.le Nat _ s1.heap.objs.size D by omega)
      have A4 := A3.newL (xs := as.map V.ref) frD
      have qf := i _ _ _ (kq D (A3.fresh frD)) A4
      refine ⟨.ref D, _, ?_, rfl, qf⟩
      have ext : ∀ b u, H1 b = some u → upd (zipUp H1 (xs.zip ys) as) D (.lst (as.map V.ref)) b = some u := fun b u e => by
        have hb : @LT.lt Nat _ b s1.heap.objs.size := I1.hok.lt e
        rw [upd_ne (Nat.ne_of_lt (show @LT.lt Nat _ b D by omega)), zipUp_ne (fun hm => by have := M.nat hm; omega)]
        exact e
      refine I1.un (t' := tk) ⟨fun b u q _ _ _ => kp1 b u q, fun b u q _ _ _ => ⟨u.slots, kp1 b u q⟩, fun b u q n _ => ?_, fun b u q _ => ⟨u, kp1 b u q⟩, fun b xs q => ext _ _ q, fun b u xs q => ext _ _ q, fun b ps q => ⟨#[], by rw [ext _ _ q]; simp⟩⟩ ?_
      · have hb : @LT.lt Nat _ b s1.heap.objs.size := Heap.lt_size q
        rw [upd_ne (Nat.ne_of_lt (show @LT.lt Nat _ b D by omega)), zipUp_ne (fun hm => by have := M.nat hm; omega)]
        exact n
      · intro b u e
        by_cases hbD : b = D
        · subst hbD
          rw [upd_same] at e
          cases e
          refine ⟨by rw [List.length_map, hlz, List.length_zip]; omega, as.map Value.ref, cc, ?_, ?_⟩
          · exact vals_refs' as
          · rw [eD, ← hacc]
        · rw [upd_ne hbD] at e
          by_cases hm : b ∈ as
          · obtain ⟨j, hj⟩ := List.getElem?_of_mem hm
            have hjl : j < (xs.zip ys).length := by rw [← hlz]; exact (List.getElem?_eq_some_iff.mp hj).1
            rw [zipUp_at (nodup_lt M.rise) hj (List.getElem?_eq_getElem hjl)] at e
            cases e
            obtain ⟨x, y, ex, ey, ep⟩ := M.pairs j b hj
            rw [List.length_zip] at hjl
            have hx : xs[j]? = some xs[j] := List.getElem?_eq_getElem (by omega)
            have hy : ys[j]? = some ys[j] := List.getElem?_eq_getElem (by omega)
            obtain ⟨u1, eu1, ru1⟩ := rv.get hx
            obtain ⟨u2, eu2, ru2⟩ := rv2.get hy
            have : u1 = x := by rw [List.getElem?_toArray, eu1] at ex; cases ex; rfl
            subst this
            have : u2 = y := by rw [List.getElem?_toArray, eu2] at ey; cases ey; rfl
            subst this
            refine ⟨by simp [sizeLine], [u1, u2], ?_, ?_⟩
            · rw [List.getElem_zip]
              exact .cons ru1 (.cons ru2 .nil)
            · exact ⟨_, ep, rfl, _, rfl⟩
          · rw [zipUp_ne hm] at e
            refine (I1.hok b u e).stay (fun d v _ q => kp1 d v q) (fun d q => ext _ _ q) fun d xs q => ext _ _ q
end
end SW
end

section
set_option Elab.async false
set_option linter.all false
set_option maxRecDepth 100000
set_option maxHeartbeats 4000000
namespace SW
open PySem PySem.Spec PyProof.Rows L2
section
variable {P : Prm} {c : Cal} {k : Nat} {X : Cx} {ce : CE} {f : Expr → Option T} {ft : Expr → Option TB} {fs : Stmt → Option TSt}
theorem s_arL (gd : ∀ e t, f e = some t → PE X e (RE P c t)) : ∀ (es : List Expr) (tl : TLs), arL f es = some tl → PA X es (RL P c tl) ∧ (es.all fun e => !isStar e) = true ∧ (es = [] → tl = lNil)
  | [], tl, h => by cases h; exact ⟨g_nil, rfl, fun _ => rfl⟩
  | a :: r, tl, h => by
    unfold arL at h
    split at h
    · cases h
    · rename_i hs
      simp only [Option.bind_eq_some_iff, Option.map_eq_some_iff] at h
      obtain ⟨x, hx, y, hy, rfl⟩ := h
      obtain ⟨h1, h2, _⟩ := s_arL gd r y hy
      have hs' : isStar a = false := by simpa using hs
      exact ⟨g_cons (gd _ _ hx) h1 (star_cons hs'), by simp [hs', h2], fun z => nomatch z⟩
theorem s_boL (hK : X.K = P.K) (hk : c.kl = P.kl) (gd : ∀ e t, f e = some t → PE X e (RE P c t)) {op : BoolOp} {pos : Pos} : ∀ (es : List Expr) (t : T), boL f op es = some t → PE X (.BoolOp op es pos) (RE P c t)
  | [], t, h => by cases h
  | [a], t, h => pe_one (gd _ _ h)
  | a :: b :: r, t, h => by
    unfold boL at h
    simp only [Option.bind_eq_some_iff, Option.map_eq_some_iff] at h
    obtain ⟨x, hx, y, hy, rfl⟩ := h
    have ih := s_boL hK hk gd (op := op) (pos := pos) (b :: r) y hy
    cases op with
    | And => exact g_and hK hk (gd _ _ hx) ih
    | Or => exact g_or hK hk (gd _ _ hx) ih
theorem s_twL (gd : ∀ e t, ft e = some t → PT X e (RB P c t)) {op : BoolOp} {pos : Pos} : ∀ (es : List Expr) (t : TB), twL ft op es = some t → PW X (.BoolOp op es pos) (RB P c t)
  | [], t, h => by cases h
  | [a], t, h => by
    cases op with
    | And => exact gw_and1 (gd _ _ h)
    | Or => exact gw_or1 (gd _ _ h)
  | a :: b :: r, t, h => by
    unfold twL at h
    simp only [Option.bind_eq_some_iff, Option.map_eq_some_iff] at h
    obtain ⟨x, hx, y, hy, rfl⟩ := h
    have ih := s_twL gd (op := op) (pos := pos) (b :: r) y hy
    cases op with
    | And => exact gw_and (gd _ _ hx) ih
    | Or => exact gw_or (gd _ _ hx) ih
theorem s_chL (gd : ∀ e t, f e = some t → PE X e (RE P c t)) : ∀ (ops : List CmpOp) (es : List Expr) (r : List (CmpOp × T)), chL f ops es = some r → Chn X P c ops es r
  | [op], [b], r, h => by
    unfold chL at h
    simp only [Option.map_eq_some_iff] at h
    obtain ⟨x, hx, rfl⟩ := h
    exact .one (gd _ _ hx)
  | op :: op' :: ops, b :: b' :: es, r, h => by
    unfold chL at h
    simp only [Option.bind_eq_some_iff, Option.map_eq_some_iff] at h
    obtain ⟨x, hx, y, hy, rfl⟩ := h
    exact .more (gd _ _ hx) (s_chL gd (op' :: ops) (b' :: es) y hy)
  | [], _, r, h => by cases h
  | _ :: _, [], r, h => by
    unfold chL at h
    split at h <;> first | (rename_i e; cases e; done) | cases h | skip
    all_goals simp_all
  | [_], _ :: _ :: es, r, h => by
    unfold chL at h
    simp only [Option.bind_eq_some_iff, Option.map_eq_some_iff] at h
    obtain ⟨x, hx, y, hy, rfl⟩ := h
    cases hy
  | _ :: _ :: ops, [_], r, h => by
    unfold chL at h
    simp only [Option.bind_eq_some_iff, Option.map_eq_some_iff] at h
    obtain ⟨x, hx, y, hy, rfl⟩ := h
    unfold chL at hy
    split at hy <;> simp_all
theorem s_ssL (gd : ∀ s t, fs s = some t → PS X s (RS P c t)) : ∀ (ss : List Stmt) (t : TSt), ssL fs ss = some t → PSs X ss (RS P c t)
  | [], t, h => by cases h; exact gs_nil
  | s :: r, t, h => by
    unfold ssL at h
    simp only [Option.bind_eq_some_iff, Option.map_eq_some_iff] at h
    obtain ⟨x, hx, y, hy, rfl⟩ := h
    exact gs_cons (gd _ _ hx) (s_ssL gd r y hy)
theorem s_nmL (C : CtxOk P c k X ce) : ∀ (es : List Expr) (is : List Nat), nmL ce es = some is → Nms X es is
  | [], is, h => by cases h; exact .nil
  | e :: r, is, h => by
    cases e <;> first
      | (unfold nmL at h
         simp only [Option.bind_eq_some_iff, Option.map_eq_some_iff] at h
         obtain ⟨x, hx, y, hy, rfl⟩ := h
         obtain ⟨h1, h2, h3⟩ := C.st hx
         exact .cons h1 h2 h3 (s_nmL C r y hy))
      | (unfold nmL at h; cases h)
theorem s_tg (C : CtxOk P c k X ce) {tg : Expr} {t : TTg} (h : cTg ce tg = some t) : PG X tg (RG P c t) ∧ isStar tg = false := by
  unfold cTg at h
  split at h
  · simp only [Option.map_eq_some_iff] at h
    obtain ⟨i, hi, rfl⟩ := h
    obtain ⟨h1, h2, h3⟩ := C.st hi
    exact ⟨g_name C.nd h1 h2 h3, rfl⟩
  · simp only [Option.map_eq_some_iff] at h
    obtain ⟨is, hi, rfl⟩ := h
    exact ⟨g_tgt C.K C.calm C.nd (s_nmL C _ _ hi), rfl⟩
  · cases h
theorem s_isBi (C : CtxOk P c k X ce) {x : Str} (h : isBi ce x = true) : Gl X x ∧ X.mg x = none ∧ special x = false := by
  unfold isBi at h
  rw [Bool.and_eq_true, Bool.and_eq_true] at h
  exact ⟨C.gl h.1.1, C.bis x (of_decide_eq_true h.1.2), by simpa using h.2⟩
theorem set_no {e : Expr} {env : Env} (h : isSet e = false) : ∀ x, foldedSetIterable e env x = pure x := by
  intro x
  cases e <;> first | rfl | (simp [isSet] at h)
theorem s_src (C : CtxOk P c k X ce) (gd : ∀ e t, f e = some t → PE X e (RE P c t)) {tg it : Expr} {t : TI} (h : cSrc f ce tg it = some t) : PI X tg it (RI P c t) ∧ isSet it = false := by
  have tup : ∀ {e : Expr}, isTup e = true → ∃ es kk pos, e = .Tuple es kk pos := fun {e} h => by
    cases e <;> first | exact ⟨_, _, _, rfl⟩ | (simp [isTup] at h)
  unfold cSrc at h
  split at h
  · rename_i x p es pos
    refine ⟨?_, rfl⟩
    split at h
    · rename_i hb
      rw [Bool.and_eq_true] at hb
      obtain ⟨b1, b2, _⟩ := s_isBi C hb.1
      have ex : x = "range" := by simpa using hb.2
      subst ex
      split at h
      · split at h
        · cases h
        · rename_i hs
          simp only [Option.map_eq_some_iff] at h
          obtain ⟨u, hu, rfl⟩ := h
          exact gi_rng1 b1 b2 (gd _ _ hu) (by simpa using hs)
      · split at h
        · cases h
        · rename_i hs
          simp only [Option.bind_eq_some_iff, Option.map_eq_some_iff] at h
          obtain ⟨u, hu, v, hv, rfl⟩ := h
          have hs' := hs; simp only [Bool.or_eq_true, not_or, Bool.not_eq_true] at hs'
          exact gi_rng2 b1 b2 (gd _ _ hu) (gd _ _ hv) hs'.1 hs'.2
      · split at h
        · cases h
        · rename_i hs
          simp only [Option.bind_eq_some_iff, Option.map_eq_some_iff] at h
          obtain ⟨u, hu, v, hv, w, hw, rfl⟩ := h
          have hs' := hs; simp only [Bool.or_eq_true, not_or, Bool.not_eq_true] at hs'
          exact gi_rng3 b1 b2 (gd _ _ hu) (gd _ _ hv) (gd _ _ hw) hs'.1.1 hs'.1.2 hs'.2
      · cases h
    · split at h
      · rename_i hb
        rw [Bool.and_eq_true, Bool.and_eq_true] at hb
        obtain ⟨b1, b2, _⟩ := s_isBi C hb.1.1
        have ex : x = "enumerate" := by simpa using hb.1.2
        subst ex
        obtain ⟨_, _, _, rfl⟩ := tup hb.2
        split at h
        · split at h
          · cases h
          · rename_i hs
            simp only [Option.map_eq_some_iff] at h
            obtain ⟨u, hu, rfl⟩ := h
            exact gi_enm C.K C.kl b1 b2 (gd _ _ hu) (by simpa using hs)
        · cases h
      · split at h
        · rename_i hb
          rw [Bool.and_eq_true, Bool.and_eq_true] at hb
          obtain ⟨b1, b2, _⟩ := s_isBi C hb.1.1
          have ex : x = "zip" := by simpa using hb.1.2
          subst ex
          obtain ⟨_, _, _, rfl⟩ := tup hb.2
          split at h
          · split at h
            · cases h
            · rename_i hs
              simp only [Option.bind_eq_some_iff, Option.map_eq_some_iff] at h
              obtain ⟨u, hu, v, hv, rfl⟩ := h
              have hs' := hs; simp only [Bool.or_eq_true, not_or, Bool.not_eq_true] at hs'
              exact gi_zip C.K C.kl b1 b2 (gd _ _ hu) (gd _ _ hv) hs'.1 hs'.2
          · cases h
        · simp only [Option.map_eq_some_iff] at h
          obtain ⟨u, hu, rfl⟩ := h
          exact gi_val C.K C.kl (gd _ _ hu)
  · split at h
    · cases h
    · rename_i hs
      simp only [Option.map_eq_some_iff] at h
      obtain ⟨u, hu, rfl⟩ := h
      exact ⟨gi_val C.K C.kl (gd _ _ hu), by simpa using hs⟩
theorem er_self (h : c.er = botE) : ({ c with er := botE } : Cal) = c := by cases c; cases h; rfl
theorem s_tests (gt : ∀ e t, ft e = some t → PT X e (RB P c t)) {ifs : List Expr} {t : TB} (h : (match ifs with | [] => some tYes | [t] => ft t | _ => none) = some t) : PTs X ifs (RB P c t) := by
  split at h
  · cases h
    exact ⟨fun pins s σ H Q I ⟨g, Q', A, h, i⟩ => pts_nil.run pins s σ H Q I (i _ _ _ h A)⟩
  · exact pts_one (gt _ _ h)
  · cases h
/-- all that a comprehension's rules ask -/
structure LcOk (X : Cx) (P : Prm) (c : Cal) (elt : Expr) (gs : List Comprehension) (scope : Scope) (t : T) : Prop where
  ex : ∃ tg it ifs src tt tb te own, gs = [⟨tg, it, ifs, 0⟩] ∧ t = eLc src tt tb te (own.map fun p : Str × Nat => p.2) ∧ PI X tg it (RI P c src) ∧ BlkOk X.N X.env.scope scope own ∧
    (∀ (s : Shared) (H : Hp) (C : Addr) (cl : List (Str × Addr)) (fp : List Addr), PG (X.blk s H scope (compEnvC scope cl C X.env) fp) tg (RG P c tt)) ∧
    (∀ (s : Shared) (H : Hp) (C : Addr) (cl : List (Str × Addr)) (fp : List Addr), PTs (X.blk s H scope (compEnvC scope cl C X.env) fp) ifs (RB P c tb)) ∧
    (∀ (s : Shared) (H : Hp) (C : Addr) (cl : List (Str × Addr)) (fp : List Addr), PE (X.blk s H scope (compEnvC scope cl C X.env) fp) elt (RE P c te)) ∧ isSet it = false
theorem s_lc {r : CF} (G : Good P c k r) (C : CtxOk P c k X ce) {elt : Expr} {gs : List Comprehension} {scope : Scope} {t : T} (h : cLc r ce elt gs scope = some t) : LcOk X P c elt gs scope t := by
  unfold cLc at h
  split at h
  · split at h
    · rename_i tg it ifs hb
      simp only [Option.bind_eq_some_iff, Option.map_eq_some_iff] at h
      obtain ⟨src, hsrc, g, hg, tt, htt, te, hte, rfl⟩ := h
      have ok : BlkOk X.N X.env.scope scope (ownOf ce.N scope) := by
        rw [C.N, C.sc]; exact blkOk_by hb
      have B := fun s H A cl fp => C.blk ok.kind s H A cl fp
      obtain ⟨i1, i2⟩ := s_src C (fun e t => G.e X ce e t C) hsrc
      exact ⟨tg, it, ifs, src, g, tt, te, ownOf ce.N scope, rfl, rfl, i1, ok, fun s H A cl fp => (s_tg (B s H A cl fp) hg).1, fun s H A cl fp => s_tests (fun e t => G.t _ _ e t (B s H A cl fp)) htt, fun s H A cl fp => G.e _ _ _ _ (B s H A cl fp) hte, i2⟩
    · cases h
  · cases h
theorem LcOk.pe (C : CtxOk P c k X ce) {elt : Expr} {gs : List Comprehension} {scope : Scope} {t : T} {pos : Pos} (L : LcOk X P c elt gs scope t) : PE X (.ListComp elt gs scope pos) (RE P c t) := by
  obtain ⟨tg, it, ifs, src, tt, tb, te, own, rfl, rfl, h1, h2, h3, h4, h5, h6⟩ := L.ex
  exact g_lc C.kl C.calm C.nd h1 h2 h3 (by rw [er_self C.er]; exact h4) (by rw [er_self C.er]; exact h5) (set_no h6)
theorem s_name (C : CtxOk P c k X ce) {x : Str} {t : T} {pos : Pos} (h : cName ce x = some t) : PE X (.Name x pos) (RE P c t) := by
  unfold cName at h
  split at h
  · cases h
  · rename_i hs
    obtain ⟨s1, s2, s3⟩ := special_no (by simpa using hs)
    split at h
    · rename_i hv
      simp only [Option.map_eq_some_iff] at h
      obtain ⟨i, hi, rfl⟩ := h
      exact g_var (by rw [C.N]; exact ixOf_get hi) (C.vis hv) s1 s2
    · split at h
      · rename_i hg
        simp only [Option.map_eq_some_iff] at h
        obtain ⟨v, hv, rfl⟩ := h
        obtain ⟨u, h1, h2⟩ := C.cst x v hv
        exact g_c (pe_glob (C.gl hg) h1 h2 s1)
      · cases h
theorem s_bi (C : CtxOk P c k X ce) {x : Str} {b : Bi} (h : bi? x = some b) : ∃ id, CallR X (.builtin id) (biL P b) ∧ bootBuiltins x = some (.builtin id) := by
  unfold bi? at h
  split at h
  · rename_i e; subst e; cases h; exact ⟨_, bi_len C.K, by decide +kernel⟩
  · split at h
    · rename_i e; subst e; cases h; exact ⟨_, bi_max C.K C.calm, by decide +kernel⟩
    · split at h
      · rename_i e; subst e; cases h; exact ⟨_, bi_min C.K C.calm, by decide +kernel⟩
      · split at h
        · rename_i e; subst e; cases h; exact ⟨_, bi_abs, by decide +kernel⟩
        · split at h
          · rename_i e; subst e; cases h; exact ⟨_, bi_sum C.K C.calm, by decide +kernel⟩
          · split at h
            · rename_i e; subst e; cases h; exact ⟨_, bi_all C.K C.calm, by decide +kernel⟩
            · cases h
theorem s_ty (C : CtxOk P c k X ce) {x : Str} {b : Bi} (h : ty? x = some b) : ∃ id, CallR X (.type id) (biL P b) ∧ bootBuiltins x = some (.type id) := by
  unfold ty? at h
  split at h
  · rename_i e; subst e; cases h; exact ⟨_, bi_int, by decide +kernel⟩
  · split at h
    · rename_i e; subst e; cases h; exact ⟨_, bi_str, by decide +kernel⟩
    · split at h
      · rename_i e; subst e; cases h; exact ⟨_, bi_list C.K, by decide +kernel⟩
      · split at h
        · rename_i e; subst e; cases h; exact ⟨_, bi_dict, by decide +kernel⟩
        · cases h
theorem s_isi {x : Str} {b : Bi} (h : isi? x = some b) : ∃ T, (b, T) ∈ [(Bi.isint, "int"), (Bi.isbool, "bool"), (Bi.isstr, "str"), (Bi.istuple, "tuple"), (Bi.islist, "list")] ∧ bootBuiltins x = some (.type T) := by
  unfold isi? at h
  split at h
  · rename_i e; subst e; cases h; exact ⟨"int", by simp, by decide +kernel⟩
  · split at h
    · rename_i e; subst e; cases h; exact ⟨"bool", by simp, by decide +kernel⟩
    · split at h
      · rename_i e; subst e; cases h; exact ⟨"str", by simp, by decide +kernel⟩
      · split at h
        · rename_i e; subst e; cases h; exact ⟨"tuple", by simp, by decide +kernel⟩
        · split at h
          · rename_i e; subst e; cases h; exact ⟨"list", by simp, by decide +kernel⟩
          · cases h
theorem s_callN (C : CtxOk P c k X ce) (gd : ∀ e t, f e = some t → PE X e (RE P c t)) {x : Str} {es : List Expr} {t : T} {p pos : Pos} (h : cCallN f ce x es = some t) : PE X (.Call (.Name x p) es [] pos) (RE P c t) := by
  unfold cCallN at h
  split at h
  · cases h
  · rename_i hs
    obtain ⟨s1, s2, s3⟩ := special_no (by simpa using hs)
    split at h
    · rename_i hg
      split at h
      · rename_i n hn
        simp only [Option.map_eq_some_iff] at h
        obtain ⟨a, ha, rfl⟩ := h
        obtain ⟨fa, h1, h2⟩ := C.fns x n hn
        obtain ⟨a1, a2, a3⟩ := s_arL gd es a ha
        exact g_fn C.er h2 (C.hr.mono (Nat.le_succ _)) (C.gl hg) h1 s1 a1 a2 a3
      · split at h
        · rename_i cn n hn
          simp only [Option.map_eq_some_iff] at h
          obtain ⟨a, ha, rfl⟩ := h
          obtain ⟨B, fa, h0, h1, h2, h3⟩ := C.cls x cn n hn
          obtain ⟨a1, a2, a3⟩ := s_arL gd es a ha
          exact g_mk C.er h3 h2 h0 C.hr (C.gl hg) h1 s1 a1 a2 a3
        · split at h
          · rename_i hb
            obtain ⟨b1, b2, b3⟩ := s_isBi C hb
            split at h
            · rename_i e y q hx
              have ex : x = "isinstance" := by simpa using hx
              subst ex
              split at h
              · cases h
              · rename_i hh
                have hh' : isStar e = false ∧ isBi ce y = true := by simpa using hh
                simp only [Option.bind_eq_some_iff, Option.map_eq_some_iff] at h
                obtain ⟨b, hb, u, hu, rfl⟩ := h
                obtain ⟨T, t1, t2⟩ := s_isi hb
                obtain ⟨y1, y2, y3⟩ := s_isBi C hh'.2
                obtain ⟨z1, z2, z3⟩ := special_no y3
                exact g_isi C.K C.kl t1 b1 b2 y1 y2 t2 z3 z1 (gd _ _ hu) hh'.1
            · cases h
            · cases h
            · rename_i e r _
              split at h
              · rename_i ab hz
                simp only [Option.bind_eq_some_iff, Option.map_eq_some_iff] at h
                obtain ⟨u, hu, v, hv, rfl⟩ := h
                unfold lzip? at hz
                split at hz
                · rename_i z pz a b pz2 heq
                  split at hz
                  · rename_i hc
                    simp only [Bool.and_eq_true, Bool.not_eq_true'] at hc
                    obtain ⟨⟨⟨⟨e1, e2⟩, e3⟩, e4⟩, e5⟩ := hc
                    have ex : x = "list" := by simpa using e1
                    have ez : z = "zip" := by simpa using e2
                    subst ex ez
                    obtain ⟨z1, z2, _⟩ := s_isBi C e3
                    cases hz
                    cases heq
                    exact g_lzip C.K C.kl C.calm b1 b2 z1 z2 (gd _ _ hu) (gd _ _ hv) e4 e5
                  · cases hz
                · cases hz
              · split at h
                · rename_i b hb
                  simp only [Option.map_eq_some_iff] at h
                  obtain ⟨a, ha, rfl⟩ := h
                  obtain ⟨id, c1, c2⟩ := s_bi C hb
                  obtain ⟨a1, a2, a3⟩ := s_arL gd _ a ha
                  rw [List.all_cons, Bool.and_eq_true] at a2
                  exact g_bi C.kl c1 b1 b2 c2 s3 s1 a1 (by simpa using a2.1) a2.2
                · simp only [Option.bind_eq_some_iff, Option.map_eq_some_iff] at h
                  obtain ⟨b, hb, a, ha, rfl⟩ := h
                  obtain ⟨id, c1, c2⟩ := s_ty C hb
                  obtain ⟨a1, a2, a3⟩ := s_arL gd _ a ha
                  rw [List.all_cons, Bool.and_eq_true] at a2
                  exact g_biT C.kl c1 b1 b2 c2 s3 s1 a1 (by simpa using a2.1) a2.2
          · cases h
    · cases h
theorem s_bm {o : Expr} {m : Str} {b : Bm} (h : bm? o m = some b) : bmName b = m := by
  unfold bm? at h
  split at h
  · rename_i hh
    cases h
    rw [Bool.and_eq_true] at hh
    exact (beq_iff_eq.mp hh.1).symm
  · have := List.find?_some h
    simpa using this
theorem s_callM (C : CtxOk P c k X ce) (gd : ∀ e t, f e = some t → PE X e (RE P c t)) {o : Expr} {m : Str} {es : List Expr} {t : T} {apos pos : Pos} (h : cCallM f ce o m apos pos es = some t) : PE X (.Call (.Attribute o m apos) es [] pos) (RE P c t) := by
  unfold cCallM at h
  split at h
  · rename_i hh
    rw [Bool.and_eq_true, Bool.and_eq_true] at hh
    obtain ⟨⟨h1, h2⟩, h3⟩ := hh
    simp only [Option.bind_eq_some_iff] at h
    obtain ⟨x, hx, a, ha, h⟩ := h
    obtain ⟨a1, a2, a3⟩ := s_arL gd es a ha
    split at h
    · rename_i ms hm
      cases h
      exact g_mt C.K C.cl C.er (C.mts m ms hm) (C.hr.mono (Nat.le_succ _)) (gd _ _ hx) a1 h1 a2 (of_decide_eq_true h2) h3 a3
    · simp only [Option.map_eq_some_iff] at h
      obtain ⟨b, hb, rfl⟩ := h
      have e := s_bm hb
      subst e
      exact g_bm C.K C.kl (gd _ _ hx) a1 h1 a2 (of_decide_eq_true h2) h3 a3
  · cases h
theorem s_opO (gd : ∀ e t, f e = some t → PE X e (RE P c t)) {o : Option Expr} {t : Cal → L2.St → G → (Option Int → G → Prop) → Prop} (h : opO f o = some t) : PO X o (RO P c t) := by
  cases o with
  | none => cases h; exact g_onone
  | some e =>
    unfold opO at h
    simp only [Option.map_eq_some_iff] at h
    obtain ⟨u, hu, rfl⟩ := h
    exact g_osome (gd _ _ hu)
theorem atIx_eq {f : Str} {i : Nat} (h : atIx f = some i) : anOf i = f := by
  have := ixOf_get h
  unfold anOf
  rw [List.getD_eq_getElem?_getD, this]
  rfl
theorem ix_plain {b : Expr} (h : ∀ lo hi st p, b ≠ .Slice lo hi st p) : PlainIx b := by
  intro o i
  cases b <;> first | rfl | exact absurd rfl (h _ _ _ _)
end
end SW
end

section
set_option Elab.async false
set_option linter.all false
set_option maxRecDepth 100000
set_option maxHeartbeats 4000000
namespace SW
open PySem PySem.Spec PyProof.Rows L2
section
variable {P : Prm} {c : Cal} {k : Nat} {r : CF}
theorem s_dspL {X : Cx} {f : Expr → Option T} {pos : Pos} (gd : ∀ e t, f e = some t → PE X e (RE P c t)) : ∀ {ks : List (Option Expr)} {vs : List Expr} {trs : List (T × T)}, dspL f ks vs = some trs → PPs X pos ks vs (liftP P c trs) ∧ ks.all (·.isSome) = true ∧ ks.length = vs.length
  | [], [], trs, h => by
    cases h
    exact ⟨pps_nil, rfl, rfl⟩
  | some k :: ks, v :: vs, trs, h => by
    unfold dspL at h
    simp only [Option.bind_eq_some_iff, Option.map_eq_some_iff] at h
    obtain ⟨x, hx, y, hy, r, hr, rfl⟩ := h
    obtain ⟨a1, a2, a3⟩ := s_dspL gd hr
    exact ⟨pps_cons (gd _ _ hx) (gd _ _ hy) a1, by rw [List.all_cons, a2]; rfl, by rw [List.length_cons, List.length_cons, a3]⟩
  | none :: _, _, _, h => by unfold dspL at h; cases h
  | some _ :: _, [], _, h => by unfold dspL at h; cases h
  | [], _ :: _, _, h => by unfold dspL at h; cases h
theorem good_e (G : Good P c k r) (X : Cx) (ce : CE) (e : Expr) (t : T) (C : CtxOk P c k X ce) (h : stepE r ce e = some t) : PE X e (RE P c t) := by
  have gd : ∀ e t, r.e ce e = some t → PE X e (RE P c t) := fun e t => G.e X ce e t C
  unfold stepE at h
  split at h
  · exact s_name C h
  · simp only [Option.map_eq_some_iff] at h
    obtain ⟨v, hv, rfl⟩ := h
    unfold cConst at hv
    split at hv <;> cases hv
    · exact g_c pe_int
    · exact g_c pe_bl
    · exact g_c pe_non
    · exact g_c pe_str
  · simp only [Option.bind_eq_some_iff, Option.map_eq_some_iff] at h
    obtain ⟨x, hx, y, hy, rfl⟩ := h
    exact g_bin C.K C.kl (gd _ _ hx) (gd _ _ hy)
  · split at h
    · simp only [Option.map_eq_some_iff] at h
      obtain ⟨x, hx, rfl⟩ := h
      exact g_neg (gd _ _ hx)
    · simp only [Option.map_eq_some_iff] at h
      obtain ⟨x, hx, rfl⟩ := h
      exact g_not C.K C.kl (gd _ _ hx)
    · cases h
  · split at h
    · split at h
      · cases h
      · rename_i hm
        simp only [Option.bind_eq_some_iff, Option.map_eq_some_iff] at h
        obtain ⟨x, hx, y, hy, rfl⟩ := h
        exact g_cmp C.K C.kl C.hu (gd _ _ hx) (gd _ _ hy) (by simpa using hm)
    · split at h
      · cases h
      · rename_i hm
        simp only [Option.bind_eq_some_iff, Option.map_eq_some_iff] at h
        obtain ⟨x, hx, y, hy, rfl⟩ := h
        exact g_chn C.K C.kl C.hu (gd _ _ hx) (s_chL gd _ _ _ hy) (by simpa using hm)
    · cases h
  · exact s_boL C.K C.kl gd _ _ h
  · simp only [Option.map_eq_some_iff] at h
    obtain ⟨x, hx, rfl⟩ := h
    exact g_tup (s_arL gd _ _ hx).1
  · simp only [Option.map_eq_some_iff] at h
    obtain ⟨x, hx, rfl⟩ := h
    exact g_lst (s_arL gd _ _ hx).1
  · split at h
    · cases h; exact g_dict0
    · split at h
      · rename_i h15
        simp only [Option.map_eq_some_iff] at h
        obtain ⟨x, hx, rfl⟩ := h
        obtain ⟨a1, a2, a3⟩ := s_dspL gd hx
        exact g_disp a1 a2 a3 (fun z => nomatch z) h15
      · cases h
    · cases h
  · split at h
    · split at h
      · simp only [Option.bind_eq_some_iff, Option.map_eq_some_iff] at h
        obtain ⟨x, hx, l, hl, u, hu, rfl⟩ := h
        exact g_sl C.K C.kl (gd _ _ hx) (s_opO gd hl) (s_opO gd hu)
      · cases h
    · rename_i hns
      simp only [Option.bind_eq_some_iff, Option.map_eq_some_iff] at h
      obtain ⟨x, hx, y, hy, rfl⟩ := h
      exact g_ix C.K C.kl (by have := C.hu; omega) (gd _ _ hx) (gd _ _ hy) (ix_plain fun lo hi st p e => hns lo hi st p e)
  · split at h
    · rename_i hb
      simp only [Option.bind_eq_some_iff, Option.map_eq_some_iff] at h
      obtain ⟨i, hi, x, hx, rfl⟩ := h
      have e := atIx_eq hi
      subst e
      exact g_at C.K C.cl (gd _ _ hx) (base_ok hb)
    · cases h
  · split at h
    · split at h
      · exact s_callN C gd h
      · exact s_callM C gd h
      · cases h
    · cases h
  · exact (s_lc G C h).pe C
  · cases h
theorem good_t (G : Good P c k r) (X : Cx) (ce : CE) (e : Expr) (t : TB) (C : CtxOk P c k X ce) (h : stepT r ce e = some t) : PT X e (RB P c t) := by
  have gd : ∀ e t, r.e ce e = some t → PE X e (RE P c t) := fun e t => G.e X ce e t C
  have gt : ∀ e t, r.t ce e = some t → PT X e (RB P c t) := fun e t => G.t X ce e t C
  unfold stepT at h
  split at h
  · split at h
    · simp only [Option.map_eq_some_iff] at h
      obtain ⟨x, hx, rfl⟩ := h
      exact gt_not (gt _ _ hx)
    · cases h
  · exact (s_twL gt _ _ h).pt
  · split at h
    · split at h
      · cases h
      · rename_i hm
        simp only [Option.bind_eq_some_iff, Option.map_eq_some_iff] at h
        obtain ⟨x, hx, y, hy, rfl⟩ := h
        exact gt_cmp C.K C.kl C.hu (gd _ _ hx) (gd _ _ hy) (by simpa using hm)
    · split at h
      · cases h
      · rename_i hm
        simp only [Option.bind_eq_some_iff, Option.map_eq_some_iff] at h
        obtain ⟨x, hx, y, hy, rfl⟩ := h
        exact gt_chn C.K C.kl C.hu (gd _ _ hx) (s_chL gd _ _ _ hy) (by simpa using hm)
    · cases h
  · simp only [Option.map_eq_some_iff] at h
    obtain ⟨x, hx, rfl⟩ := h
    exact gt_val C.K C.kl (gd _ _ hx) fun _ => rfl
  · simp only [Option.map_eq_some_iff] at h
    obtain ⟨x, hx, rfl⟩ := h
    exact gt_val C.K C.kl (gd _ _ hx) fun _ => rfl
  · simp only [Option.map_eq_some_iff] at h
    obtain ⟨x, hx, rfl⟩ := h
    exact gt_val C.K C.kl (gd _ _ hx) fun _ => rfl
  · cases h
theorem good_asg (G : Good P c k r) (X : Cx) (ce : CE) (C : CtxOk P c k X ce) {tg e : Expr} {t : TSt} {spos : Pos} (h : cAsg r ce tg e spos = some t) : PS X (.Assign [tg] e spos) (RS P c t) := by
  have gd : ∀ e t, r.e ce e = some t → PE X e (RE P c t) := fun e t => G.e X ce e t C
  unfold cAsg at h
  split at h
  · split at h
    · split at h
      · rename_i x p elt gs scope pos _ _ _ q hlk hb
        simp only [Option.bind_eq_some_iff, Option.map_eq_some_iff] at h
        obtain ⟨u, hu, i, hi, rfl⟩ := h
        obtain ⟨tg', it, ifs, src, tt, tb, te, own, e1, rfl, h1, h2, h3, h4, h5, h6⟩ := (s_lc G C hu).ex
        rw [Bool.and_eq_true] at hb
        have hx : X.env.scope.names.lookup x = some .local := by rw [C.sc]; exact hlk
        rw [e1]
        exact gs_setLc (P := P) (c := c) hx C.kl C.calm C.nd (by rw [C.N]; exact ixOf_get hi) (sw_true C.kind hx hb.1 (by simpa using hb.2)) h1 h2 h3 (by rw [er_self C.er]; exact h4) (by rw [er_self C.er]; exact h5) (set_no h6)
      · cases h
    · split at h
      · cases h
      · rename_i hc
        simp only [Option.bind_eq_some_iff, Option.map_eq_some_iff] at h
        obtain ⟨i, hi, u, hu, rfl⟩ := h
        obtain ⟨h1, h2, h3⟩ := C.st hi
        exact gs_asg (gd _ _ hu) (g_name C.nd h1 h2 h3) (by simpa using hc) swapped_name rfl
  · split at h
    · cases h
    · rename_i hc
      simp only [Bool.or_eq_true, not_or, Bool.not_eq_true] at hc
      simp only [Option.bind_eq_some_iff, Option.map_eq_some_iff] at h
      obtain ⟨is, hi, u, hu, rfl⟩ := h
      exact gs_asg (gd _ _ hu) (g_tgt C.K C.calm C.nd (s_nmL C _ _ hi)) hc.2 (swapped_no hc.1) rfl
  · split at h
    · cases h
    · rename_i hc
      simp only [Option.bind_eq_some_iff, Option.map_eq_some_iff] at h
      obtain ⟨i, hi, x, hx, u, hu, rfl⟩ := h
      have e := atIx_eq hi
      subst e
      exact gs_setAt C.K C.cl (gd _ _ hx) (gd _ _ hu) (by simpa using hc)
  · split at h
    · cases h
    · rename_i hc
      simp only [Bool.or_eq_true, not_or, Bool.not_eq_true] at hc
      simp only [Option.bind_eq_some_iff, Option.map_eq_some_iff] at h
      obtain ⟨x, hx, y, hy, u, hu, rfl⟩ := h
      exact gs_setIx (by have := C.hu; omega) (gd _ _ hx) (gd _ _ hy) (gd _ _ hu) hc.1
  · cases h
theorem good_s (G : Good P c k r) (X : Cx) (ce : CE) (s : Stmt) (t : TSt) (C : CtxOk P c k X ce) (hb : ce.blk = false) (h : stepS r ce s = some t) : PS X s (RS P c t) := by
  have gd : ∀ e t, r.e ce e = some t → PE X e (RE P c t) := fun e t => G.e X ce e t C
  have gt : ∀ e t, r.t ce e = some t → PT X e (RB P c t) := fun e t => G.t X ce e t C
  have gs : ∀ s t, r.s ce s = some t → PS X s (RS P c t) := fun s t => G.s X ce s t C hb
  unfold stepS at h
  split at h
  · split at h
    · cases h
      exact PS.imp ps_doc fun D σ H ⟨g, D', A, h, k⟩ => k.nx _ _ _ h A
    · split at h
      · cases h
      · rename_i hc
        simp only [Option.map_eq_some_iff] at h
        obtain ⟨x, hx, rfl⟩ := h
        exact gs_drop (gd _ _ hx) (by simpa using hc)
  · simp only [Option.map_eq_some_iff] at h
    obtain ⟨x, hx, rfl⟩ := h
    exact gs_ret (gd _ _ hx)
  · cases h; exact gs_retN
  · simp only [Option.bind_eq_some_iff, Option.map_eq_some_iff] at h
    obtain ⟨x, hx, y, hy, z, hz, rfl⟩ := h
    exact gs_if (gt _ _ hx) (s_ssL gs _ _ hy) (s_ssL gs _ _ hz)
  · split at h
    · exact good_asg G X ce C h
    · cases h
  · split at h
    · simp only [Option.bind_eq_some_iff, Option.map_eq_some_iff] at h
      obtain ⟨x, hx, g, hg, b, hb', rfl⟩ := h
      obtain ⟨i1, i2⟩ := s_src C gd hx
      exact gs_for C.K C.kl C.xe C.calm i1 (s_tg C hg).1 (s_ssL gs _ _ hb') (set_no i2)
    · cases h
  · split at h
    · simp only [Option.bind_eq_some_iff, Option.map_eq_some_iff] at h
      obtain ⟨x, hx, b, hb', rfl⟩ := h
      exact gs_while C.xe (gt _ _ hx) (s_ssL gs _ _ hb')
    · cases h
  · cases h; exact gs_brk
  · cases h; exact gs_pass
  · cases h; exact gs_raise C.er
  · cases h
theorem good_all : ∀ n, Good P c k (cF n)
  | 0 => ⟨fun _ _ _ _ _ h => (nomatch h), fun _ _ _ _ _ h => (nomatch h), fun _ _ _ _ _ _ h => (nomatch h)⟩
  | n + 1 => ⟨fun X ce e t => good_e (good_all n) X ce e t, fun X ce e t => good_t (good_all n) X ce e t, fun X ce s t => good_s (good_all n) X ce s t⟩
theorem body_ok {X : Cx} {ce : CE} {b : List Stmt} {t : TSt} (C : CtxOk P c k X ce) (hb : ce.blk = false) (h : cBody ce b = some t) : PSs X b (RS P c t) :=
  s_ssL (fun s t => (good_all 40).s X ce s t C hb) b t h
end
end SW
end

section
set_option Elab.async false
set_option linter.all false
set_option maxRecDepth 100000
set_option maxHeartbeats 4000000
/-! The promises of all defs, by the depth of calls. -/
namespace SW
open PySem PySem.Spec PyProof.Rows L2
/-- the tables of a text -/
structure Tab where
  bis : List Str
  cst : List (Str × Sum Int Str)
  fns : List (Str × Nat)
  cls : List (Str × Nat × Nat)
  mtd : List (Str × Str × Nat)
  mts : List (Str × List (Nat × Nat))
  exc : List (Str × Nat)
structure Ent where
  id : Nat
  at_ : Str × Option Str
  name : Str
  qual : Str
  st : Stmt
  ps : List Str
  N : List Str
  d : FDef
def Tab.ce (T : Tab) (sc : Scope) (N : List Str) : CE := ⟨sc, N, false, T.bis, T.fns, T.cls, T.mts, T.cst.map fun p => (p.1, kV p.2), T.exc⟩
/-- what a def's text must be -/
structure EntOk (T : Tab) (e : Ent) : Prop where
  body : cBody (T.ce (defScope e.st) e.N) (defBody e.st) = some e.d.body
  n : e.d.n = e.ps.length
  sz : e.d.sz = e.N.length
  sc : FnScope e.N e.ps (defScope e.st)
  bi : ∀ (kV doc pm : Value) (an : Option Addr) (cdv ct : Value) (us : List Value), us.length = e.ps.length → bindArgs (PySem.W.fnOf e.name e.qual (defArgs e.st) (defBody e.st) (defScope e.st) .none kV doc pm an cdv ct) ⟨us, []⟩ = pure (e.ps.zip us)
def Ent.D (e : Ent) : He.DefD := ⟨e.at_, e.name, e.qual, defArgs e.st, defBody e.st, defScope e.st, [], []⟩
def defsOf (es : List Ent) (f : Nat) : Option FDef := (es.find? fun e => e.id == f).map (·.d)
def hasEnt (es : List Ent) (f : Nat) (p : Str × Option Str) : Bool := es.any fun e => e.id == f && e.at_ == p
/-- the tables say the same of each name -/
structure TabOk (T : Tab) (es : List Ent) : Prop where
  fns : (T.fns.all fun p => hasEnt es p.2 (p.1, none)) = true
  cls : (T.cls.all fun p => hasEnt es p.2.2 (p.1, some "__init__") && (T.cls.find? fun q => q.2.1 == p.2.1) == some p && (T.mtd.all fun q => q.1 != p.1 || hasEnt es q.2.2 (q.1, some q.2.1))) = true
  mts : (T.mts.all fun m => m.2.all fun cf => (T.cls.all fun p => p.2.1 != cf.1 || T.mtd.contains (p.1, m.1, cf.2)) && (atOf cf.1).all fun i => anOf i != m.1) = true
  ids : (es.map (·.id)).Nodup
/-- the facts that the head is asked -/
def faOf (T : Tab) : List He.Fa :=
  T.bis.map He.Fa.free ++ (T.cst.map (fun p => match p.2 with | .inl i => He.Fa.int p.1 i | .inr z => He.Fa.str p.1 z) ++ (T.fns.map (fun p => He.Fa.glo p.1) ++ (T.cls.map (fun p => He.Fa.glo p.1) ++ (T.cls.map (fun p => He.Fa.cls p.1) ++ (T.cls.map (fun p => He.Fa.mkr p.1) ++
    (T.cls.flatMap (fun p => (atOf p.2.1).map fun i => He.Fa.noat p.1 (anOf i)) ++ T.mtd.map fun q => He.Fa.meth q.1 q.2.1))))))
def prmOf (T : Tab) (K : PySem.W.Frag) (kl : Addr → List V → Prop) : Prm := ⟨K, kl, fun cn => (T.cls.find? fun q => q.2.1 == cn).map fun q => He.ga K q.1⟩
section
variable {T : Tab} {es : List Ent} {K : PySem.W.Frag} {kl : Addr → List V → Prop}
theorem FnOk.or {P : Program} {w : World} {mg : Str → Option Value} {base : Heap} {CX : CXT} {k : Nat} {f : Addr} {fd : FuncData} {ps : List Str} {sp sp' : Sp} (F : FnOk P w K mg base CX k f fd ps sp) (F' : FnOk P w K mg base CX k f fd ps sp') : FnOk P w K mg base CX k f fd ps (fun vs H Q E => sp vs H Q E ∨ sp' vs H Q E) :=
  ⟨fun vs H Q E h => h.elim (F.len vs H Q E) (F'.len vs H Q E), fun A outer s H args us vs Q E hr e0 b r h => h.elim (F.run A outer s H args us vs Q E hr e0 b r) (F'.run A outer s H args us vs Q E hr e0 b r)⟩
theorem FnOk.ex {ι : Type} {P : Program} {w : World} {mg : Str → Option Value} {base : Heap} {CX : CXT} {k : Nat} {f : Addr} {fd : FuncData} {ps : List Str} {sp : ι → Sp} (F : ∀ i, FnOk P w K mg base CX k f fd ps (sp i)) : FnOk P w K mg base CX k f fd ps (fun vs H Q E => ∃ i, sp i vs H Q E) :=
  ⟨fun vs H Q E ⟨i, h⟩ => (F i).len vs H Q E h, fun A outer s H args us vs Q E hr e0 b r ⟨i, h⟩ => (F i).run A outer s H args us vs Q E hr e0 b r h⟩
/-- what stands behind the top -/
structure Top (T : Tab) (es : List Ent) (K : PySem.W.Frag) (mg : Str → Option Value) : Prop where
  ents : ∀ e ∈ es, EntOk T e
  tab : TabOk T es
  fa : ∀ f ∈ faOf T, f.ok K = true
  fn : ∀ e ∈ es, ∃ fd, FunD K e.name e.qual (defArgs e.st) (defBody e.st) (defScope e.st) [] [] (He.fAd K e.at_) fd
  glo : ∀ x, (He.Fa.glo x).ok K = true → mg x = some (.ref (He.ga K x))
  free : ∀ x, (He.Fa.free x).ok K = true → mg x = none
  int : ∀ x i, (He.Fa.int x i).ok K = true → ∃ t, mg x = some (.int i t)
  str : ∀ x z, (He.Fa.str x z).ok K = true → ∃ t, mg x = some (.str z t)
variable {mg : Str → Option Value}
theorem Top.fBis (t : Top T es K mg) {x : Str} (h : x ∈ T.bis) : mg x = none := t.free x (t.fa _ (by simp only [faOf, List.mem_append]; exact .inl (List.mem_map_of_mem h)))
theorem Top.fFn (t : Top T es K mg) {p : Str × Nat} (h : p ∈ T.fns) : mg p.1 = some (.ref (He.ga K p.1)) := t.glo p.1 (t.fa _ (by simp only [faOf, List.mem_append]; exact .inr (.inr (.inl (List.mem_map_of_mem (f := fun p : Str × Nat => He.Fa.glo p.1) h)))))
theorem Top.fCg (t : Top T es K mg) {p : Str × Nat × Nat} (h : p ∈ T.cls) : mg p.1 = some (.ref (He.ga K p.1)) := t.glo p.1 (t.fa _ (by simp only [faOf, List.mem_append]; exact .inr (.inr (.inr (.inl (List.mem_map_of_mem (f := fun p : Str × Nat × Nat => He.Fa.glo p.1) h))))))
theorem Top.fCc (t : Top T es K mg) {p : Str × Nat × Nat} (h : p ∈ T.cls) : Cls K (He.ga K p.1) := He.cls_ok (t.fa _ (by simp only [faOf, List.mem_append]; exact .inr (.inr (.inr (.inr (.inl (List.mem_map_of_mem (f := fun p : Str × Nat × Nat => He.Fa.cls p.1) h)))))))
theorem Top.fCm (t : Top T es K mg) {p : Str × Nat × Nat} (h : p ∈ T.cls) : Mk K (He.ga K p.1) (He.ma K (He.ga K p.1) "__init__") := He.mkr_ok (t.fa _ (by simp only [faOf, List.mem_append]; exact .inr (.inr (.inr (.inr (.inr (.inl (List.mem_map_of_mem (f := fun p : Str × Nat × Nat => He.Fa.mkr p.1) h))))))))
theorem Top.fNa (t : Top T es K mg) {p : Str × Nat × Nat} (h : p ∈ T.cls) {i : Nat} (hi : i ∈ atOf p.2.1) : NoAttr K (He.ga K p.1) (anOf i) := He.noat_ok (t.fa _ (by
  simp only [faOf, List.mem_append]
  exact .inr (.inr (.inr (.inr (.inr (.inr (.inl (List.mem_flatMap.mpr ⟨p, h, List.mem_map_of_mem (f := fun i => He.Fa.noat p.1 (anOf i)) hi⟩)))))))))
theorem Top.fMt (t : Top T es K mg) {q : Str × Str × Nat} (h : q ∈ T.mtd) : Meth K (He.ga K q.1) q.2.1 (He.ma K (He.ga K q.1) q.2.1) := He.meth_ok (t.fa _ (by
  simp only [faOf, List.mem_append]
  exact .inr (.inr (.inr (.inr (.inr (.inr (.inr (List.mem_map_of_mem (f := fun q : Str × Str × Nat => He.Fa.meth q.1 q.2.1) h)))))))))
theorem prm_cls {cn : Nat} {C : Addr} (h : (prmOf T K kl).cls cn = some C) : ∃ p ∈ T.cls, p.2.1 = cn ∧ C = He.ga K p.1 := by
  unfold prmOf at h
  simp only [Option.map_eq_some_iff] at h
  obtain ⟨p, h1, rfl⟩ := h
  exact ⟨p, List.mem_of_find?_eq_some h1, by simpa using List.find?_some h1, rfl⟩
theorem Top.clss (t : Top T es K mg) : Clss (prmOf T K kl) where
  cl := fun c C h => by
    obtain ⟨p, h1, _, rfl⟩ := prm_cls h
    exact t.fCc h1
  na := fun c C i h hi => by
    obtain ⟨p, h1, rfl, rfl⟩ := prm_cls h
    exact t.fNa h1 hi
theorem has_ent {f : Nat} {p : Str × Option Str} (h : hasEnt es f p = true) : ∃ e ∈ es, e.id = f ∧ e.at_ = p := by
  unfold hasEnt at h
  rw [List.any_eq_true] at h
  obtain ⟨e, h1, h2⟩ := h
  rw [Bool.and_eq_true] at h2
  exact ⟨e, h1, by simpa using h2.1, by simpa using h2.2⟩
variable {prog : Program} {w : World} {base : Heap} {L : Nat} {bs : Nat → SpG}
/-- every def keeps its promise at a level -/
def AllOk (prog : Program) (w : World) (K : PySem.W.Frag) (mg : Str → Option Value) (base : Heap) (P : Prm) (es : List Ent) (L : Nat) (sp : Nat → SpG) : Prop :=
  ∀ e ∈ es, ∀ fd, FunD K e.name e.qual (defArgs e.st) (defBody e.st) (defScope e.st) [] [] (He.fAd K e.at_) fd → FnOk prog w K mg base CX0 L (He.fAd K e.at_) fd e.ps (lowSp P (sp e.id))
theorem fn_at (t : Top T es K mg) {P : Prm} {sp : Nat → SpG} (A : AllOk prog w K mg base P es L sp) {X : Cx} (hP : X.prog = prog) (hw : X.w = w) (hK : X.K = K) (hm : X.mg = mg) (hb : X.base = base) {c : Cal} (hc : c.fn = sp) {e : Ent} (he : e ∈ es) : FnAt X P c L e.id (He.fAd K e.at_) := by
  obtain ⟨fd, F⟩ := t.fn e he
  subst hP hw hK hm hb hc
  exact ⟨⟨fd, e.ps, A e he fd F, F.bindsN (t.ents e he).bi⟩, F.kp⟩
theorem lk_mem {α β : Type} [BEq α] [LawfulBEq α] {x : α} {v : β} : ∀ {l : List (α × β)}, l.lookup x = some v → (x, v) ∈ l
  | (y, u) :: r, h => by
    rw [List.lookup_cons] at h
    by_cases e : x = y
    · subst e
      rw [beq_self_eq_true] at h
      cases h
      exact List.mem_cons_self
    · have e2 : (x == y) = false := beq_eq_false_iff_ne.mpr e
      rw [e2] at h
      exact List.mem_cons_of_mem _ (lk_mem h)
theorem find_id : ∀ {es : List Ent} {e : Ent}, (es.map (·.id)).Nodup → e ∈ es → es.find? (fun e' => e'.id == e.id) = some e
  | a :: r, e, nd, h => by
    rw [List.map_cons, List.nodup_cons] at nd
    rw [List.find?_cons]
    rcases List.mem_cons.mp h with rfl | h
    · simp
    · have : (a.id == e.id) = false := beq_eq_false_iff_ne.mpr fun z => nd.1 (z ▸ List.mem_map_of_mem (f := fun e : Ent => e.id) h)
      rw [this]
      exact find_id nd.2 h
theorem ctx_of (t : Top T es K mg) {P : Prm} (hPr : P = prmOf T K kl) {sp : Nat → SpG} (A : AllOk prog w K mg base P es L sp) {X : Cx} (hP : X.prog = prog) (hw : X.w = w) (hK : X.K = K) (hm : X.mg = mg) (hb : X.base = base) {c : Cal} (hc : c.fn = sp) (hkl : c.kl = kl) (her : c.er = botE)
    {sc : Scope} {N : List Str} (h1 : X.calm = true) (h2 : X.xe = fun _ _ => False) (h3 : X.env.scope.kind = .function) (h4 : X.env.scope = sc) (h5 : X.N = N) (h6 : N.Nodup) (h7 : ∀ x, X.fn x = true) (h8 : Room (L + 1) X.A) : CtxOk P c L X (T.ce sc N) where
  K := by rw [hK, hPr]; rfl
  kl := by rw [hkl, hPr]; rfl
  er := her
  calm := h1
  xe := h2
  kind := h3
  sc := h4
  N := h5
  nd := by rw [h5]; exact h6
  fn := fun _ => h7
  hr := h8
  cl := by rw [hPr]; exact t.clss
  bis := fun x h => by rw [hm]; exact t.fBis h
  cst := fun x v h => by
    have hmem := lk_mem h
    obtain ⟨p, hp, e⟩ := List.mem_map.mp hmem
    injection e with e1 e2
    subst e1 e2
    rw [hm]
    have hf := t.fa _ (by simp only [faOf, List.mem_append]; exact .inr (.inl (List.mem_map_of_mem (f := fun p : Str × Sum Int Str => match p.2 with | .inl i => He.Fa.int p.1 i | .inr z => He.Fa.str p.1 z) hp)))
    obtain ⟨x, y⟩ := p
    cases y with
    | inl i => obtain ⟨u, e⟩ := t.int _ _ hf; exact ⟨_, e, u, rfl⟩
    | inr z => obtain ⟨u, e⟩ := t.str _ _ hf; exact ⟨_, e, u, rfl⟩
  fns := fun x f h => by
    have hp := lk_mem h
    obtain ⟨e, he, hid, hat⟩ := has_ent (List.all_eq_true.mp t.tab.fns _ hp)
    have z := fn_at t A hP hw hK hm hb hc he
    rw [hid, hat] at z
    rw [hm]
    exact ⟨_, t.fFn hp, z⟩
  cls := fun x cn f h => by
    have hp := lk_mem h
    have q := List.all_eq_true.mp t.tab.cls _ hp
    rw [Bool.and_eq_true, Bool.and_eq_true] at q
    obtain ⟨e, he, hid, hat⟩ := has_ent q.1.1
    have z := fn_at t A hP hw hK hm hb hc he
    rw [hid, hat] at z
    rw [hm, hK, hPr]
    have e1 : (T.cls.find? fun q => q.2.1 == cn) = some (x, cn, f) := by simpa using q.1.2
    refine ⟨He.ga K x, _, ?_, t.fCg hp, t.fCm hp, by rw [← hPr]; exact z⟩
    show ((T.cls.find? fun q => q.2.1 == cn).map fun q => He.ga K q.1) = _
    rw [e1]
    rfl
  mts := fun m ms h => by
    have hm' := List.all_eq_true.mp t.tab.mts _ (lk_mem h)
    refine ⟨fun cn f hl C hC => ?_, fun cn f hl i hi => ?_⟩
    · have q := List.all_eq_true.mp hm' _ (lk_mem hl)
      rw [Bool.and_eq_true] at q
      rw [hPr] at hC
      obtain ⟨p, hp, hcn, rfl⟩ := prm_cls hC
      have q1 := List.all_eq_true.mp q.1 p hp
      have q2 : (p.1, m, f) ∈ T.mtd := by
        rw [Bool.or_eq_true] at q1
        rcases q1 with q1 | q1
        · exact absurd hcn (by simpa using q1)
        · simpa using q1
      have q3 := List.all_eq_true.mp t.tab.cls _ hp
      rw [Bool.and_eq_true] at q3
      have q4 := List.all_eq_true.mp q3.2 _ q2
      rw [Bool.or_eq_true] at q4
      rcases q4 with q4 | q4
      · simp at q4
      · obtain ⟨e, he, hid, hat⟩ := has_ent q4
        have z := fn_at t A hP hw hK hm hb hc he
        rw [hid, hat] at z
        rw [hK]
        exact ⟨_, t.fMt q2, z⟩
    · have q := List.all_eq_true.mp hm' _ (lk_mem hl)
      rw [Bool.and_eq_true] at q
      have := List.all_eq_true.mp q.2 i hi
      simpa using this
theorem bot_er {E : XG} (hE : ∀ e g, ¬ E e g) : (fun (e : Nat) (_ : L2.St) (g' : G) => ∃ g'', Sub g'' g' ∧ E e g'') = botE := by
  funext e σ g'
  exact propext ⟨fun ⟨g'', _, h⟩ => hE _ _ h, fun h => h.elim⟩
theorem sys_ok (t : Top T es K mg) (A0 : AllOk prog w K mg base (prmOf T K kl) es L bs) : ∀ k, AllOk prog w K mg base (prmOf T K kl) es (L + 2 * k) (Gam kl bs (defsOf es) k)
  | 0 => fun e he fd F => A0 e he fd F
  | k + 1 => fun e he fd F => by
    have ih := sys_ok t A0 k
    have E := t.ents e he
    have F1 := (A0 e he fd F).mono (show L ≤ L + 2 * (k + 1) by omega)
    have hd : defsOf es e.id = some e.d := by
      unfold defsOf
      rw [find_id t.tab.ids he]
      rfl
    have F2 : FnOk prog w K mg base CX0 (L + 2 * (k + 1)) (He.fAd K e.at_) fd e.ps (lowSp (prmOf T K kl) fun vs g Q E' => vs.length = e.d.n ∧
        e.d.body ⟨kl, Gam kl bs (defsOf es) k, fun e _ g' => ∃ g'', Sub g'' g' ∧ E' e g''⟩ ⟨fun _ g' => ∃ g'', Sub g'' g' ∧ Q .non g'', fun v g' => ∃ g'', Sub g'' g' ∧ Q v g'', fun _ _ => False, fun _ _ => False⟩ (startG e.d.sz vs) g) := by
      have e3 : L + 2 * (k + 1) = (L + 2 * k + 1) + 1 := by omega
      rw [e3]
      refine F.ok E.sc (fun vs H Q _ h => ?_) (fun cdv A outer s H vs Q Ex hr h => ?_)
      · obtain ⟨g, Q', _, ⟨h, _⟩, _⟩ := h
        rw [h, E.n]
      · obtain ⟨g, Q', Ag, ⟨hl, hb⟩, i⟩ := h
        rw [bot_er (E := fun _ _ => False) (fun _ _ h => h)] at hb
        have e4 : startG e.d.sz vs = L2.start e.N vs := by unfold startG L2.start; rw [E.sz]
        rw [e4] at hb
        refine ⟨RS (prmOf T K kl) ⟨kl, Gam kl bs (defsOf es) k, botE⟩ e.d.body, PSs.nox ?_, g, _, Ag, hb, ⟨fun σ g H ⟨g2, hs, q⟩ A => i _ _ _ q (A.sub hs), fun v g H ⟨g2, hs, q⟩ A => i _ _ _ q (A.sub hs), fun _ _ _ h => h.elim, fun _ _ _ h => h.elim⟩⟩
        refine body_ok (k := L + 2 * k) (ce := T.ce (defScope e.st) e.N) ?_ rfl E.body
        exact ctx_of t rfl ih rfl rfl rfl rfl rfl rfl rfl rfl rfl rfl E.sc.kind rfl rfl E.sc.nd (fun _ => rfl) hr
    refine (SW.FnOk.or F1 F2).imp fun vs H Q Ex h => ?_
    obtain ⟨g, Q', A, h, i⟩ := h
    rcases h with h | h
    · exact .inl ⟨g, Q', A, h, i⟩
    · rw [hd] at h
      exact .inr ⟨g, Q', A, h, i⟩
end
end SW
end

section
set_option Elab.async false
set_option linter.all false
set_option maxRecDepth 100000
set_option maxHeartbeats 4000000
namespace SW
open PySem L2
abbrev F_is_plain : Nat := 2
/-- slots: thing 0, sign 1 -/
def b_is_plain : TSt := sSeq (sIf (tNot (tVal (eBi .isstr (lCons (eV 0) lNil)))) (sSeq (sRet (eC (.bl false))) sNext) sNext) (sSeq (sRet (eBi .all (lCons (eLc (iVal (eV 0)) (gN 1) tYes (eOr (eChn (eC (.str " ")) [(.LtE, eV 1), (.LtE, eC (.str "~"))]) (eCmp .Eq (eV 1) (eC (.str "\n")))) [1]) lNil))) sNext)
def d_is_plain : FDef := ⟨1, 2, b_is_plain⟩
abbrev F_is_name : Nat := 3
/-- slots: thing 0, sign 1 -/
def b_is_name : TSt := sSeq (sIf (tOr (tNot (tVal (eBi .isstr (lCons (eV 0) lNil)))) (tNot (tBl (eChn (eC (.int 1)) [(.LtE, eBi .len (lCons (eV 0) lNil)), (.LtE, eC (.int 8))])))) (sSeq (sRet (eC (.bl false))) sNext) sNext) (sSeq (sRet (eBi .all (lCons (eLc (iVal (eV 0)) (gN 1) tYes (eCmp .In (eV 1) (eC (.str "abcdefghijklmnopqrstuvwxyz"))) [1]) lNil))) sNext)
def d_is_name : FDef := ⟨1, 2, b_is_name⟩
abbrev F_ends_in : Nat := 4
/-- slots: plain 0 -/
def b_ends_in : TSt := sSeq (sRet (eBm .count (eV 0) (lCons (eC (.str "\n")) lNil))) sNext
def d_ends_in : FDef := ⟨1, 1, b_ends_in⟩
abbrev F_Shelf___init__ : Nat := 9
/-- slots: self 0 -/
def b_Shelf___init__ : TSt := sSeq (sSetAt (eV 0) 0 (eLst (lCons (eC .non) lNil))) (sSeq (sSetAt (eV 0) 1 eDict0) (sSeq (sSetAt (eV 0) 2 (eLst (lCons (eC (.int 0)) lNil))) (sSeq (sSetAt (eV 0) 3 (eLst (lCons (eC (.int 0)) lNil))) (sSeq (sSetAt (eV 0) 4 (eLst (lCons (eC (.int 0)) lNil))) (sSeq (sSetAt (eV 0) 5 (eLst (lCons (eNeg (eC (.int 1))) lNil))) (sSeq (sSetAt (eV 0) 6 (eLst (lCons (eC (.int 0)) lNil))) (sSeq (sSetAt (eV 0) 7 (eLst (lCons (eC (.int 0)) lNil))) sNext)))))))
def d_Shelf___init__ : FDef := ⟨1, 1, b_Shelf___init__⟩
abbrev F_Shelf_want : Nat := 10
/-- slots: self 0, text 1 -/
def b_Shelf_want : TSt := sSeq (sIf (tNot (tBl (eChn (eC (.int 0)) [(.LtE, eV 1), (.Lt, eBi .len (lCons (eAt (eV 0) 0) lNil))]))) (sSeq (sRaise 2) sNext) sNext) sNext
def d_Shelf_want : FDef := ⟨2, 2, b_Shelf_want⟩
abbrev F_Shelf_want_piece : Nat := 11
/-- slots: self 0, number 1 -/
def b_Shelf_want_piece : TSt := sSeq (sIf (tNot (tBl (eChn (eC (.int 0)) [(.Lt, eV 1), (.Lt, eBi .len (lCons (eAt (eV 0) 0) lNil))]))) (sSeq (sRaise 2) sNext) sNext) sNext
def d_Shelf_want_piece : FDef := ⟨2, 2, b_Shelf_want_piece⟩
abbrev F_Shelf_many : Nat := 12
/-- slots: self 0 -/
def b_Shelf_many : TSt := sSeq (sRet (eBin .Sub (eBi .len (lCons (eAt (eV 0) 0) lNil)) (eC (.int 1)))) sNext
def d_Shelf_many : FDef := ⟨1, 1, b_Shelf_many⟩
abbrev F_Shelf_piece : Nat := 13
/-- slots: self 0, number 1 -/
def b_Shelf_piece : TSt := sSeq (sDrop (eMt [(0, 11)] (eV 0) (lCons (eV 1) lNil))) (sSeq (sRet (eIx (eAt (eV 0) 0) (eV 1))) sNext)
def d_Shelf_piece : FDef := ⟨2, 2, b_Shelf_piece⟩
abbrev F_Shelf_signs : Nat := 14
/-- slots: self 0, text 1 -/
def b_Shelf_signs : TSt := sSeq (sDrop (eMt [(0, 10)] (eV 0) (lCons (eV 1) lNil))) (sSeq (sRet (eIx (eAt (eV 0) 2) (eV 1))) sNext)
def d_Shelf_signs : FDef := ⟨2, 2, b_Shelf_signs⟩
abbrev F_Shelf_ends : Nat := 15
/-- slots: self 0, text 1 -/
def b_Shelf_ends : TSt := sSeq (sDrop (eMt [(0, 10)] (eV 0) (lCons (eV 1) lNil))) (sSeq (sRet (eIx (eAt (eV 0) 3) (eV 1))) sNext)
def d_Shelf_ends : FDef := ⟨2, 2, b_Shelf_ends⟩
abbrev F_Shelf_leaves : Nat := 16
/-- slots: self 0, text 1 -/
def b_Shelf_leaves : TSt := sSeq (sDrop (eMt [(0, 10)] (eV 0) (lCons (eV 1) lNil))) (sSeq (sRet (eIx (eAt (eV 0) 4) (eV 1))) sNext)
def d_Shelf_leaves : FDef := ⟨2, 2, b_Shelf_leaves⟩
abbrev F_Shelf_height : Nat := 17
/-- slots: self 0, text 1 -/
def b_Shelf_height : TSt := sSeq (sDrop (eMt [(0, 10)] (eV 0) (lCons (eV 1) lNil))) (sSeq (sRet (eIx (eAt (eV 0) 5) (eV 1))) sNext)
def d_Shelf_height : FDef := ⟨2, 2, b_Shelf_height⟩
abbrev F_Shelf_first_leaf : Nat := 18
/-- slots: self 0, text 1 -/
def b_Shelf_first_leaf : TSt := sSeq (sDrop (eMt [(0, 10)] (eV 0) (lCons (eV 1) lNil))) (sSeq (sRet (eIx (eAt (eV 0) 6) (eV 1))) sNext)
def d_Shelf_first_leaf : FDef := ⟨2, 2, b_Shelf_first_leaf⟩
abbrev F_Shelf_last_leaf : Nat := 19
/-- slots: self 0, text 1 -/
def b_Shelf_last_leaf : TSt := sSeq (sDrop (eMt [(0, 10)] (eV 0) (lCons (eV 1) lNil))) (sSeq (sRet (eIx (eAt (eV 0) 7) (eV 1))) sNext)
def d_Shelf_last_leaf : FDef := ⟨2, 2, b_Shelf_last_leaf⟩
abbrev F_Shelf_laid : Nat := 20
/-- slots: self 0, piece 1, signs 2, ends 3, leaves 4, height 5, number 6 -/
def b_Shelf_laid : TSt := sSeq (sAsg (eBi .len (lCons (eAt (eV 0) 0) lNil)) (gN 6)) (sSeq (sDrop (eBm .append (eAt (eV 0) 0) (lCons (eV 1) lNil))) (sSeq (sSetIx (eAt (eV 0) 1) (eV 1) (eV 6)) (sSeq (sDrop (eBm .append (eAt (eV 0) 2) (lCons (eV 2) lNil))) (sSeq (sDrop (eBm .append (eAt (eV 0) 3) (lCons (eV 3) lNil))) (sSeq (sDrop (eBm .append (eAt (eV 0) 4) (lCons (eV 4) lNil))) (sSeq (sDrop (eBm .append (eAt (eV 0) 5) (lCons (eV 5) lNil))) (sSeq (sRet (eV 6)) sNext)))))))
def d_Shelf_laid : FDef := ⟨6, 7, b_Shelf_laid⟩
abbrev F_Shelf_leaf : Nat := 21
/-- slots: self 0, plain 1, piece 2, number 3 -/
def b_Shelf_leaf : TSt := sSeq (sIf (tOr (tNot (tVal (eFn 2 (lCons (eV 1) lNil)))) (tNot (tBl (eChn (eC (.int 1)) [(.LtE, eBi .len (lCons (eV 1) lNil)), (.LtE, eC (.int 8))])))) (sSeq (sRaise 1) sNext) sNext) (sSeq (sAsg (eTup (lCons (eC (.str "leaf")) (lCons (eV 1) lNil))) (gN 2)) (sSeq (sIf (tBl (eCmp .In (eV 2) (eAt (eV 0) 1))) (sSeq (sRet (eIx (eAt (eV 0) 1) (eV 2))) sNext) sNext) (sSeq (sAsg (eMt [(0, 20)] (eV 0) (lCons (eV 2) (lCons (eBi .len (lCons (eV 1) lNil)) (lCons (eFn 4 (lCons (eV 1) lNil)) (lCons (eC (.int 1)) (lCons (eC (.int 0)) lNil)))))) (gN 3)) (sSeq (sDrop (eBm .append (eAt (eV 0) 6) (lCons (eV 3) lNil))) (sSeq (sDrop (eBm .append (eAt (eV 0) 7) (lCons (eV 3) lNil))) (sSeq (sRet (eV 3)) sNext))))))
def d_Shelf_leaf : FDef := ⟨2, 4, b_Shelf_leaf⟩
abbrev F_Shelf_fork : Nat := 22
/-- slots: self 0, one 1, other 2, heights 3, signs 4, piece 5, ends 6, leaves 7, number 8 -/
def b_Shelf_fork : TSt := sSeq (sDrop (eMt [(0, 11)] (eV 0) (lCons (eV 1) lNil))) (sSeq (sDrop (eMt [(0, 11)] (eV 0) (lCons (eV 2) lNil))) (sSeq (sIf (tVal (eMt [(0, 23)] (eV 0) (lCons (eV 1) (lCons (eV 2) lNil)))) (sSeq (sRaise 3) sNext) sNext) (sSeq (sAsg (eLst (lCons (eIx (eAt (eV 0) 5) (eV 1)) (lCons (eIx (eAt (eV 0) 5) (eV 2)) lNil))) (gN 3)) (sSeq (sIf (tBl (eCmp .Gt (eBin .Sub (eBi .max (lCons (eV 3) lNil)) (eBi .min (lCons (eV 3) lNil))) (eC (.int 1)))) (sSeq (sRaise 4) sNext) sNext) (sSeq (sAsg (eBin .Add (eIx (eAt (eV 0) 2) (eV 1)) (eIx (eAt (eV 0) 2) (eV 2))) (gN 4)) (sSeq (sIf (tBl (eCmp .Gt (eV 4) (eC (.int 1000000000000000000)))) (sSeq (sRaise 5) sNext) sNext) (sSeq (sAsg (eTup (lCons (eC (.str "fork")) (lCons (eV 1) (lCons (eV 2) lNil)))) (gN 5)) (sSeq (sIf (tBl (eCmp .In (eV 5) (eAt (eV 0) 1))) (sSeq (sRet (eIx (eAt (eV 0) 1) (eV 5))) sNext) sNext) (sSeq (sAsg (eBin .Add (eIx (eAt (eV 0) 3) (eV 1)) (eIx (eAt (eV 0) 3) (eV 2))) (gN 6)) (sSeq (sAsg (eBin .Add (eIx (eAt (eV 0) 4) (eV 1)) (eIx (eAt (eV 0) 4) (eV 2))) (gN 7)) (sSeq (sAsg (eMt [(0, 20)] (eV 0) (lCons (eV 5) (lCons (eV 4) (lCons (eV 6) (lCons (eV 7) (lCons (eBin .Add (eC (.int 1)) (eBi .max (lCons (eV 3) lNil))) lNil)))))) (gN 8)) (sSeq (sDrop (eBm .append (eAt (eV 0) 6) (lCons (eIx (eAt (eV 0) 6) (eV 1)) lNil))) (sSeq (sDrop (eBm .append (eAt (eV 0) 7) (lCons (eIx (eAt (eV 0) 7) (eV 2)) lNil))) (sSeq (sRet (eV 8)) sNext))))))))))))))
def d_Shelf_fork : FDef := ⟨3, 9, b_Shelf_fork⟩
abbrev F_Shelf_is_loose : Nat := 23
/-- slots: self 0, one 1, other 2 -/
def b_Shelf_is_loose : TSt := sSeq (sRet (eCmp .LtE (eBin .Add (eIx (eAt (eV 0) 2) (eIx (eAt (eV 0) 7) (eV 1))) (eIx (eAt (eV 0) 2) (eIx (eAt (eV 0) 6) (eV 2)))) (eC (.int 8)))) sNext
def d_Shelf_is_loose : FDef := ⟨3, 3, b_Shelf_is_loose⟩
abbrev F_is_leaf : Nat := 39
/-- slots: shelf 0, text 1 -/
def b_is_leaf : TSt := sSeq (sRet (eCmp .Eq (eMt [(0, 17)] (eV 0) (lCons (eV 1) lNil)) (eC (.int 0)))) sNext
def d_is_leaf : FDef := ⟨2, 2, b_is_leaf⟩
abbrev F_parts_of : Nat := 40
/-- slots: shelf 0, text 1, word 2, one 3, other 4 -/
def b_parts_of : TSt := sSeq (sAsg (eMt [(0, 13)] (eV 0) (lCons (eV 1) lNil)) (gTp [2, 3, 4])) (sSeq (sRet (eTup (lCons (eV 3) (lCons (eV 4) lNil)))) sNext)
def d_parts_of : FDef := ⟨2, 5, b_parts_of⟩
abbrev F_turned_right : Nat := 41
/-- slots: shelf 0, one 1, other 2, inner 3, outer 4, left 5, right 6 -/
def b_turned_right : TSt := sSeq (sAsg (eFn 40 (lCons (eV 0) (lCons (eV 2) lNil))) (gTp [3, 4])) (sSeq (sIf (tBl (eCmp .LtE (eMt [(0, 17)] (eV 0) (lCons (eV 3) lNil)) (eMt [(0, 17)] (eV 0) (lCons (eV 4) lNil)))) (sSeq (sRet (eMt [(0, 22)] (eV 0) (lCons (eMt [(0, 22)] (eV 0) (lCons (eV 1) (lCons (eV 3) lNil))) (lCons (eV 4) lNil)))) sNext) sNext) (sSeq (sAsg (eFn 40 (lCons (eV 0) (lCons (eV 3) lNil))) (gTp [5, 6])) (sSeq (sRet (eMt [(0, 22)] (eV 0) (lCons (eMt [(0, 22)] (eV 0) (lCons (eV 1) (lCons (eV 5) lNil))) (lCons (eMt [(0, 22)] (eV 0) (lCons (eV 6) (lCons (eV 4) lNil))) lNil)))) sNext)))
def d_turned_right : FDef := ⟨3, 7, b_turned_right⟩
abbrev F_turned_left : Nat := 42
/-- slots: shelf 0, one 1, other 2, outer 3, inner 4, left 5, right 6 -/
def b_turned_left : TSt := sSeq (sAsg (eFn 40 (lCons (eV 0) (lCons (eV 1) lNil))) (gTp [3, 4])) (sSeq (sIf (tBl (eCmp .LtE (eMt [(0, 17)] (eV 0) (lCons (eV 4) lNil)) (eMt [(0, 17)] (eV 0) (lCons (eV 3) lNil)))) (sSeq (sRet (eMt [(0, 22)] (eV 0) (lCons (eV 3) (lCons (eMt [(0, 22)] (eV 0) (lCons (eV 4) (lCons (eV 2) lNil))) lNil)))) sNext) sNext) (sSeq (sAsg (eFn 40 (lCons (eV 0) (lCons (eV 4) lNil))) (gTp [5, 6])) (sSeq (sRet (eMt [(0, 22)] (eV 0) (lCons (eMt [(0, 22)] (eV 0) (lCons (eV 3) (lCons (eV 5) lNil))) (lCons (eMt [(0, 22)] (eV 0) (lCons (eV 6) (lCons (eV 2) lNil))) lNil)))) sNext)))
def d_turned_left : FDef := ⟨3, 7, b_turned_left⟩
abbrev F_levelled : Nat := 43
/-- slots: shelf 0, one 1, other 2 -/
def b_levelled : TSt := sSeq (sIf (tBl (eCmp .Gt (eMt [(0, 17)] (eV 0) (lCons (eV 2) lNil)) (eBin .Add (eMt [(0, 17)] (eV 0) (lCons (eV 1) lNil)) (eC (.int 1))))) (sSeq (sRet (eFn 41 (lCons (eV 0) (lCons (eV 1) (lCons (eV 2) lNil))))) sNext) sNext) (sSeq (sIf (tBl (eCmp .Gt (eMt [(0, 17)] (eV 0) (lCons (eV 1) lNil)) (eBin .Add (eMt [(0, 17)] (eV 0) (lCons (eV 2) lNil)) (eC (.int 1))))) (sSeq (sRet (eFn 42 (lCons (eV 0) (lCons (eV 1) (lCons (eV 2) lNil))))) sNext) sNext) (sSeq (sRet (eMt [(0, 22)] (eV 0) (lCons (eV 1) (lCons (eV 2) lNil)))) sNext))
def d_levelled : FDef := ⟨3, 3, b_levelled⟩
abbrev F_linked : Nat := 44
/-- slots: shelf 0, one 1, other 2, first 3, last 4 -/
def b_linked : TSt := sSeq (sIf (tOr (tBl (eCmp .Eq (eV 1) (eC (.int 0)))) (tBl (eCmp .Eq (eV 2) (eC (.int 0))))) (sSeq (sRet (eBin .Add (eV 1) (eV 2))) sNext) sNext) (sSeq (sIf (tBl (eCmp .Gt (eMt [(0, 17)] (eV 0) (lCons (eV 1) lNil)) (eBin .Add (eMt [(0, 17)] (eV 0) (lCons (eV 2) lNil)) (eC (.int 1))))) (sSeq (sAsg (eFn 40 (lCons (eV 0) (lCons (eV 1) lNil))) (gTp [3, 4])) (sSeq (sRet (eFn 43 (lCons (eV 0) (lCons (eV 3) (lCons (eFn 44 (lCons (eV 0) (lCons (eV 4) (lCons (eV 2) lNil)))) lNil))))) sNext)) sNext) (sSeq (sIf (tBl (eCmp .Gt (eMt [(0, 17)] (eV 0) (lCons (eV 2) lNil)) (eBin .Add (eMt [(0, 17)] (eV 0) (lCons (eV 1) lNil)) (eC (.int 1))))) (sSeq (sAsg (eFn 40 (lCons (eV 0) (lCons (eV 2) lNil))) (gTp [3, 4])) (sSeq (sRet (eFn 43 (lCons (eV 0) (lCons (eFn 44 (lCons (eV 0) (lCons (eV 1) (lCons (eV 3) lNil)))) (lCons (eV 4) lNil))))) sNext)) sNext) (sSeq (sRet (eMt [(0, 22)] (eV 0) (lCons (eV 1) (lCons (eV 2) lNil)))) sNext)))
def d_linked : FDef := ⟨3, 5, b_linked⟩
abbrev F_without_last : Nat := 45
/-- slots: shelf 0, text 1, one 2, other 3 -/
def b_without_last : TSt := sSeq (sIf (tVal (eFn 39 (lCons (eV 0) (lCons (eV 1) lNil)))) (sSeq (sRet (eC (.int 0))) sNext) sNext) (sSeq (sAsg (eFn 40 (lCons (eV 0) (lCons (eV 1) lNil))) (gTp [2, 3])) (sSeq (sRet (eFn 44 (lCons (eV 0) (lCons (eV 2) (lCons (eFn 45 (lCons (eV 0) (lCons (eV 3) lNil))) lNil))))) sNext))
def d_without_last : FDef := ⟨2, 4, b_without_last⟩
abbrev F_without_first : Nat := 46
/-- slots: shelf 0, text 1, one 2, other 3 -/
def b_without_first : TSt := sSeq (sIf (tVal (eFn 39 (lCons (eV 0) (lCons (eV 1) lNil)))) (sSeq (sRet (eC (.int 0))) sNext) sNext) (sSeq (sAsg (eFn 40 (lCons (eV 0) (lCons (eV 1) lNil))) (gTp [2, 3])) (sSeq (sRet (eFn 44 (lCons (eV 0) (lCons (eFn 46 (lCons (eV 0) (lCons (eV 2) lNil))) (lCons (eV 3) lNil))))) sNext))
def d_without_first : FDef := ⟨2, 4, b_without_first⟩
abbrev F_leaf_text : Nat := 47
/-- slots: shelf 0, number 1 -/
def b_leaf_text : TSt := sSeq (sRet (eIx (eMt [(0, 13)] (eV 0) (lCons (eV 1) lNil)) (eC (.int 1)))) sNext
def d_leaf_text : FDef := ⟨2, 2, b_leaf_text⟩
abbrev F_poured : Nat := 48
/-- slots: shelf 0, one 1, other 2, last 3, first 4, amid 5 -/
def b_poured : TSt := sSeq (sAsg (eFn 47 (lCons (eV 0) (lCons (eMt [(0, 19)] (eV 0) (lCons (eV 1) lNil)) lNil))) (gN 3)) (sSeq (sAsg (eFn 47 (lCons (eV 0) (lCons (eMt [(0, 18)] (eV 0) (lCons (eV 2) lNil)) lNil))) (gN 4)) (sSeq (sAsg (eMt [(0, 21)] (eV 0) (lCons (eBin .Add (eV 3) (eV 4)) lNil)) (gN 5)) (sSeq (sRet (eFn 44 (lCons (eV 0) (lCons (eFn 44 (lCons (eV 0) (lCons (eFn 45 (lCons (eV 0) (lCons (eV 1) lNil))) (lCons (eV 5) lNil)))) (lCons (eFn 46 (lCons (eV 0) (lCons (eV 2) lNil))) lNil))))) sNext)))
def d_poured : FDef := ⟨3, 6, b_poured⟩
abbrev F_joined : Nat := 49
/-- slots: shelf 0, one 1, other 2 -/
def b_joined : TSt := sSeq (sIf (tBl (eCmp .Gt (eBin .Add (eMt [(0, 14)] (eV 0) (lCons (eV 1) lNil)) (eMt [(0, 14)] (eV 0) (lCons (eV 2) lNil))) (eC (.int 1000000000000000000)))) (sSeq (sRaise 5) sNext) sNext) (sSeq (sIf (tOr (tBl (eCmp .Eq (eV 1) (eC (.int 0)))) (tBl (eCmp .Eq (eV 2) (eC (.int 0))))) (sSeq (sRet (eBin .Add (eV 1) (eV 2))) sNext) sNext) (sSeq (sIf (tVal (eMt [(0, 23)] (eV 0) (lCons (eV 1) (lCons (eV 2) lNil)))) (sSeq (sRet (eFn 48 (lCons (eV 0) (lCons (eV 1) (lCons (eV 2) lNil))))) sNext) sNext) (sSeq (sRet (eFn 44 (lCons (eV 0) (lCons (eV 1) (lCons (eV 2) lNil))))) sNext)))
def d_joined : FDef := ⟨3, 3, b_joined⟩
abbrev F_built_of : Nat := 50
/-- slots: shelf 0, leaves 1, half 2 -/
def b_built_of : TSt := sSeq (sIf (tBl (eCmp .Eq (eBi .len (lCons (eV 1) lNil)) (eC (.int 1)))) (sSeq (sRet (eIx (eV 1) (eC (.int 0)))) sNext) sNext) (sSeq (sAsg (eBin .FloorDiv (eBi .len (lCons (eV 1) lNil)) (eC (.int 2))) (gN 2)) (sSeq (sRet (eMt [(0, 22)] (eV 0) (lCons (eFn 50 (lCons (eV 0) (lCons (eSl (eV 1) oNone (oSome (eV 2))) lNil))) (lCons (eFn 50 (lCons (eV 0) (lCons (eSl (eV 1) (oSome (eV 2)) oNone) lNil))) lNil)))) sNext))
def d_built_of : FDef := ⟨2, 3, b_built_of⟩
abbrev F_built : Nat := 51
/-- slots: shelf 0, plain 1, leaves 2, start 3 -/
def b_built : TSt := sSeq (sIf (tNot (tVal (eFn 2 (lCons (eV 1) lNil)))) (sSeq (sRaise 1) sNext) sNext) (sSeq (sIf (tBl (eCmp .Gt (eBi .len (lCons (eV 1) lNil)) (eC (.int 10000)))) (sSeq (sRaise 5) sNext) sNext) (sSeq (sIf (tBl (eCmp .Eq (eV 1) (eC (.str "")))) (sSeq (sRet (eC (.int 0))) sNext) sNext) (sSeq (sAsg (eLst lNil) (gN 2)) (sSeq (sFor (iRng3 (eC (.int 0)) (eBi .len (lCons (eV 1) lNil)) (eC (.int 8))) (gN 3) (sSeq (sDrop (eBm .append (eV 2) (lCons (eMt [(0, 21)] (eV 0) (lCons (eSl (eV 1) (oSome (eV 3)) (oSome (eBin .Add (eV 3) (eC (.int 8))))) lNil)) lNil))) sNext)) (sSeq (sRet (eFn 50 (lCons (eV 0) (lCons (eV 2) lNil)))) sNext)))))
def d_built : FDef := ⟨2, 4, b_built⟩
abbrev F_repeated : Nat := 52
/-- slots: shelf 0, text 1, many 2, found 3, twice 4 -/
def b_repeated : TSt := sSeq (sIf (tBl (eCmp .Lt (eV 2) (eC (.int 0)))) (sSeq (sDrop (eMt [(0, 10)] (eV 0) (lCons (eV 1) lNil))) (sSeq (sRaise 6) sNext)) sNext) (sSeq (sIf (tBl (eCmp .Gt (eBin .Mult (eMt [(0, 14)] (eV 0) (lCons (eV 1) lNil)) (eV 2)) (eC (.int 1000000000000000000)))) (sSeq (sRaise 5) sNext) sNext) (sSeq (sAsg (eC (.int 0)) (gN 3)) (sSeq (sAsg (eV 1) (gN 4)) (sSeq (sWhile (tAnd (tBl (eCmp .Gt (eV 2) (eC (.int 0)))) (tBl (eCmp .NotEq (eV 1) (eC (.int 0))))) (sSeq (sIf (tBl (eCmp .Eq (eBin .Mod (eV 2) (eC (.int 2))) (eC (.int 1)))) (sSeq (sAsg (eFn 49 (lCons (eV 0) (lCons (eV 3) (lCons (eV 4) lNil)))) (gN 3)) sNext) sNext) (sSeq (sAsg (eBin .FloorDiv (eV 2) (eC (.int 2))) (gN 2)) (sSeq (sIf (tBl (eCmp .Gt (eV 2) (eC (.int 0)))) (sSeq (sAsg (eFn 49 (lCons (eV 0) (lCons (eV 4) (lCons (eV 4) lNil)))) (gN 4)) sNext) sNext) sNext)))) (sSeq (sRet (eV 3)) sNext)))))
def d_repeated : FDef := ⟨3, 5, b_repeated⟩
abbrev F_want_stretch : Nat := 53
/-- slots: shelf 0, text 1, begin 2, end 3, signs 4 -/
def b_want_stretch : TSt := sSeq (sAsg (eMt [(0, 14)] (eV 0) (lCons (eV 1) lNil)) (gN 4)) (sSeq (sIf (tNot (tBl (eChn (eC (.int 0)) [(.LtE, eV 2), (.LtE, eV 3), (.LtE, eV 4)]))) (sSeq (sRaise 6) sNext) sNext) sNext)
def d_want_stretch : FDef := ⟨4, 5, b_want_stretch⟩
abbrev F_leaf_cut : Nat := 54
/-- slots: shelf 0, leaf 1, at 2, plain 3, parts 4, part 5 -/
def b_leaf_cut : TSt := sSeq (sAsg (eFn 47 (lCons (eV 0) (lCons (eV 1) lNil))) (gN 3)) (sSeq (sAsg (eLst lNil) (gN 4)) (sSeq (sFor (iVal (eLst (lCons (eSl (eV 3) oNone (oSome (eV 2))) (lCons (eSl (eV 3) (oSome (eV 2)) oNone) lNil)))) (gN 5) (sSeq (sIf (tBl (eCmp .Eq (eV 5) (eC (.str "")))) (sSeq (sDrop (eBm .append (eV 4) (lCons (eC (.int 0)) lNil))) sNext) (sSeq (sDrop (eBm .append (eV 4) (lCons (eMt [(0, 21)] (eV 0) (lCons (eV 5) lNil)) lNil))) sNext)) sNext)) (sSeq (sRet (eTup (lCons (eIx (eV 4) (eC (.int 0))) (lCons (eIx (eV 4) (eC (.int 1))) lNil)))) sNext)))
def d_leaf_cut : FDef := ⟨3, 6, b_leaf_cut⟩
abbrev F_halves : Nat := 55
/-- slots: shelf 0, text 1, at 2, one 3, other 4, ahead 5, left 6, right 7 -/
def b_halves : TSt := sSeq (sIf (tBl (eCmp .Eq (eV 2) (eC (.int 0)))) (sSeq (sRet (eTup (lCons (eC (.int 0)) (lCons (eV 1) lNil)))) sNext) sNext) (sSeq (sIf (tBl (eCmp .Eq (eV 2) (eMt [(0, 14)] (eV 0) (lCons (eV 1) lNil)))) (sSeq (sRet (eTup (lCons (eV 1) (lCons (eC (.int 0)) lNil)))) sNext) sNext) (sSeq (sIf (tVal (eFn 39 (lCons (eV 0) (lCons (eV 1) lNil)))) (sSeq (sRet (eFn 54 (lCons (eV 0) (lCons (eV 1) (lCons (eV 2) lNil))))) sNext) sNext) (sSeq (sAsg (eFn 40 (lCons (eV 0) (lCons (eV 1) lNil))) (gTp [3, 4])) (sSeq (sAsg (eMt [(0, 14)] (eV 0) (lCons (eV 3) lNil)) (gN 5)) (sSeq (sIf (tBl (eCmp .Lt (eV 2) (eV 5))) (sSeq (sAsg (eFn 55 (lCons (eV 0) (lCons (eV 3) (lCons (eV 2) lNil)))) (gTp [6, 7])) (sSeq (sRet (eTup (lCons (eV 6) (lCons (eFn 49 (lCons (eV 0) (lCons (eV 7) (lCons (eV 4) lNil)))) lNil)))) sNext)) sNext) (sSeq (sAsg (eFn 55 (lCons (eV 0) (lCons (eV 4) (lCons (eBin .Sub (eV 2) (eV 5)) lNil)))) (gTp [6, 7])) (sSeq (sRet (eTup (lCons (eFn 49 (lCons (eV 0) (lCons (eV 3) (lCons (eV 6) lNil)))) (lCons (eV 7) lNil)))) sNext)))))))
def d_halves : FDef := ⟨3, 8, b_halves⟩
abbrev F_put_in : Nat := 57
/-- slots: shelf 0, text 1, at 2, other 3, signs 4, left 5, right 6 -/
def b_put_in : TSt := sSeq (sAsg (eBin .Add (eMt [(0, 14)] (eV 0) (lCons (eV 1) lNil)) (eMt [(0, 14)] (eV 0) (lCons (eV 3) lNil))) (gN 4)) (sSeq (sDrop (eFn 53 (lCons (eV 0) (lCons (eV 1) (lCons (eV 2) (lCons (eMt [(0, 14)] (eV 0) (lCons (eV 1) lNil)) lNil)))))) (sSeq (sIf (tBl (eCmp .Gt (eV 4) (eC (.int 1000000000000000000)))) (sSeq (sRaise 5) sNext) sNext) (sSeq (sAsg (eFn 55 (lCons (eV 0) (lCons (eV 1) (lCons (eV 2) lNil)))) (gTp [5, 6])) (sSeq (sRet (eFn 49 (lCons (eV 0) (lCons (eFn 49 (lCons (eV 0) (lCons (eV 5) (lCons (eV 3) lNil)))) (lCons (eV 6) lNil))))) sNext))))
def d_put_in : FDef := ⟨4, 7, b_put_in⟩
abbrev F_taken_out : Nat := 58
/-- slots: shelf 0, text 1, begin 2, end 3, left 4 -/
def b_taken_out : TSt := sSeq (sDrop (eFn 53 (lCons (eV 0) (lCons (eV 1) (lCons (eV 2) (lCons (eV 3) lNil)))))) (sSeq (sAsg (eIx (eFn 55 (lCons (eV 0) (lCons (eV 1) (lCons (eV 2) lNil)))) (eC (.int 0))) (gN 4)) (sSeq (sRet (eFn 49 (lCons (eV 0) (lCons (eV 4) (lCons (eIx (eFn 55 (lCons (eV 0) (lCons (eV 1) (lCons (eV 3) lNil)))) (eC (.int 1))) lNil))))) sNext))
def d_taken_out : FDef := ⟨4, 5, b_taken_out⟩
abbrev F_House___init__ : Nat := 103
/-- slots: self 0 -/
def b_House___init__ : TSt := sSeq (sSetAt (eV 0) 17 (eMk 0 9 lNil)) (sSeq (sSetAt (eV 0) 15 eDict0) (sSeq (sSetAt (eV 0) 18 (eLst lNil)) (sSeq (sSetAt (eV 0) 19 (eLst lNil)) sNext)))
def d_House___init__ : FDef := ⟨1, 1, b_House___init__⟩
abbrev F_House_shelf : Nat := 104
/-- slots: self 0 -/
def b_House_shelf : TSt := sSeq (sRet (eAt (eV 0) 17)) sNext
def d_House_shelf : FDef := ⟨1, 1, b_House_shelf⟩
abbrev F_House_text : Nat := 106
/-- slots: self 0, name 1 -/
def b_House_text : TSt := sSeq (sIf (tBl (eCmp .NotIn (eV 1) (eAt (eV 0) 15))) (sSeq (sRaise 7) sNext) sNext) (sSeq (sRet (eIx (eAt (eV 0) 15) (eV 1))) sNext)
def d_House_text : FDef := ⟨2, 2, b_House_text⟩
abbrev F_House_step : Nat := 107
/-- slots: self 0, known 1 -/
def b_House_step : TSt := sSeq (sDrop (eBm .append (eAt (eV 0) 18) (lCons (eAt (eV 0) 15) lNil))) (sSeq (sSetAt (eV 0) 15 (eV 1)) (sSeq (sSetAt (eV 0) 19 (eLst lNil)) sNext))
def d_House_step : FDef := ⟨2, 2, b_House_step⟩
abbrev F_House_given : Nat := 108
/-- slots: self 0, name 1, number 2, known 3 -/
def b_House_given : TSt := sSeq (sAsg (eBi .dict (lCons (eAt (eV 0) 15) lNil)) (gN 3)) (sSeq (sSetIx (eV 3) (eV 1) (eV 2)) (sSeq (sDrop (eMt [(4, 107)] (eV 0) (lCons (eV 3) lNil))) sNext))
def d_House_given : FDef := ⟨3, 4, b_House_given⟩
abbrev F_House_give : Nat := 109
/-- slots: self 0, name 1, plain 2 -/
def b_House_give : TSt := sSeq (sIf (tNot (tVal (eFn 3 (lCons (eV 1) lNil)))) (sSeq (sRaise 7) sNext) sNext) (sSeq (sDrop (eMt [(4, 108)] (eV 0) (lCons (eV 1) (lCons (eFn 51 (lCons (eAt (eV 0) 17) (lCons (eV 2) lNil))) lNil)))) sNext)
def d_House_give : FDef := ⟨3, 3, b_House_give⟩
abbrev F_House_copy_of : Nat := 110
/-- slots: self 0, name 1, other 2 -/
def b_House_copy_of : TSt := sSeq (sDrop (eFn 200 (lCons (eC (.int 0)) lNil))) sNext
def d_House_copy_of : FDef := ⟨3, 3, b_House_copy_of⟩
abbrev F_House_join_to : Nat := 111
/-- slots: self 0, name 1, other 2 -/
def b_House_join_to : TSt := sSeq (sDrop (eMt [(4, 108)] (eV 0) (lCons (eV 1) (lCons (eFn 49 (lCons (eAt (eV 0) 17) (lCons (eMt [(4, 106)] (eV 0) (lCons (eV 1) lNil)) (lCons (eMt [(4, 106)] (eV 0) (lCons (eV 2) lNil)) lNil)))) lNil)))) sNext
def d_House_join_to : FDef := ⟨3, 3, b_House_join_to⟩
abbrev F_House_put_into : Nat := 112
/-- slots: self 0, name 1, at 2, other 3 -/
def b_House_put_into : TSt := sSeq (sDrop (eMt [(4, 108)] (eV 0) (lCons (eV 1) (lCons (eFn 57 (lCons (eAt (eV 0) 17) (lCons (eMt [(4, 106)] (eV 0) (lCons (eV 1) lNil)) (lCons (eV 2) (lCons (eMt [(4, 106)] (eV 0) (lCons (eV 3) lNil)) lNil))))) lNil)))) sNext
def d_House_put_into : FDef := ⟨4, 4, b_House_put_into⟩
abbrev F_House_take_from : Nat := 113
/-- slots: self 0, name 1, begin 2, end 3 -/
def b_House_take_from : TSt := sSeq (sDrop (eMt [(4, 108)] (eV 0) (lCons (eV 1) (lCons (eFn 58 (lCons (eAt (eV 0) 17) (lCons (eMt [(4, 106)] (eV 0) (lCons (eV 1) lNil)) (lCons (eV 2) (lCons (eV 3) lNil))))) lNil)))) sNext
def d_House_take_from : FDef := ⟨4, 4, b_House_take_from⟩
abbrev F_House_repeat : Nat := 114
/-- slots: self 0, name 1, many 2 -/
def b_House_repeat : TSt := sSeq (sDrop (eMt [(4, 108)] (eV 0) (lCons (eV 1) (lCons (eFn 52 (lCons (eAt (eV 0) 17) (lCons (eMt [(4, 106)] (eV 0) (lCons (eV 1) lNil)) (lCons (eV 2) lNil)))) lNil)))) sNext
def d_House_repeat : FDef := ⟨3, 3, b_House_repeat⟩
abbrev F_House_drop : Nat := 115
/-- slots: self 0, name 1 -/
def b_House_drop : TSt := sSeq (sDrop (eFn 200 (lCons (eC (.int 1)) lNil))) sNext
def d_House_drop : FDef := ⟨2, 2, b_House_drop⟩
abbrev F_House_back : Nat := 116
/-- slots: self 0 -/
def b_House_back : TSt := sSeq (sIf (tBl (eCmp .Eq (eAt (eV 0) 18) (eLst lNil))) (sSeq (sRaise 8) sNext) sNext) (sSeq (sDrop (eBm .append (eAt (eV 0) 19) (lCons (eAt (eV 0) 15) lNil))) (sSeq (sSetAt (eV 0) 15 (eBm .pop (eAt (eV 0) 18) lNil)) sNext))
def d_House_back : FDef := ⟨1, 1, b_House_back⟩
abbrev F_House_again : Nat := 117
/-- slots: self 0 -/
def b_House_again : TSt := sSeq (sIf (tBl (eCmp .Eq (eAt (eV 0) 19) (eLst lNil))) (sSeq (sRaise 8) sNext) sNext) (sSeq (sDrop (eBm .append (eAt (eV 0) 18) (lCons (eAt (eV 0) 15) lNil))) (sSeq (sSetAt (eV 0) 15 (eBm .pop (eAt (eV 0) 19) lNil)) sNext))
def d_House_again : FDef := ⟨1, 1, b_House_again⟩
abbrev F_gathered : Nat := 29
/-- slots: shelf 0, text 1, begin 2, end 3, word 4, one 5, other 6, ahead 7 -/
def b_gathered : TSt := sSeq (sAsg (eBi .max (lCons (eV 2) (lCons (eC (.int 0)) lNil))) (gN 2)) (sSeq (sAsg (eBi .min (lCons (eV 3) (lCons (eMt [(0, 14)] (eV 0) (lCons (eV 1) lNil)) lNil))) (gN 3)) (sSeq (sIf (tBl (eCmp .GtE (eV 2) (eV 3))) (sSeq (sRet (eC (.str ""))) sNext) sNext) (sSeq (sIf (tBl (eCmp .Eq (eMt [(0, 17)] (eV 0) (lCons (eV 1) lNil)) (eC (.int 0)))) (sSeq (sRet (eSl (eIx (eMt [(0, 13)] (eV 0) (lCons (eV 1) lNil)) (eC (.int 1))) (oSome (eV 2)) (oSome (eV 3)))) sNext) sNext) (sSeq (sAsg (eMt [(0, 13)] (eV 0) (lCons (eV 1) lNil)) (gTp [4, 5, 6])) (sSeq (sAsg (eMt [(0, 14)] (eV 0) (lCons (eV 5) lNil)) (gN 7)) (sSeq (sRet (eBin .Add (eFn 29 (lCons (eV 0) (lCons (eV 5) (lCons (eV 2) (lCons (eV 3) lNil))))) (eFn 29 (lCons (eV 0) (lCons (eV 6) (lCons (eBin .Sub (eV 2) (eV 7)) (lCons (eBin .Sub (eV 3) (eV 7)) lNil))))))) sNext))))))
def d_gathered : FDef := ⟨4, 8, b_gathered⟩
abbrev F_stretch_of : Nat := 30
/-- slots: shelf 0, text 1, begin 2, end 3, signs 4 -/
def b_stretch_of : TSt := sSeq (sAsg (eMt [(0, 14)] (eV 0) (lCons (eV 1) lNil)) (gN 4)) (sSeq (sIf (tNot (tBl (eChn (eC (.int 0)) [(.LtE, eV 2), (.LtE, eV 3), (.LtE, eV 4)]))) (sSeq (sRaise 6) sNext) sNext) (sSeq (sIf (tBl (eCmp .Gt (eBin .Sub (eV 3) (eV 2)) (eC (.int 10000)))) (sSeq (sRaise 5) sNext) sNext) (sSeq (sRet (eFn 29 (lCons (eV 0) (lCons (eV 1) (lCons (eV 2) (lCons (eV 3) lNil)))))) sNext)))
def d_stretch_of : FDef := ⟨4, 5, b_stretch_of⟩
abbrev F_is_whole : Nat := 1
/-- slots: thing 0 -/
def b_is_whole : TSt := sSeq (sRet (eAnd (eBi .isint (lCons (eV 0) lNil)) (eNot (eBi .isbool (lCons (eV 0) lNil))))) sNext
def d_is_whole : FDef := ⟨1, 1, b_is_whole⟩
abbrev F_look_at_word : Nat := 91
/-- slots: word 0 -/
def b_look_at_word : TSt := sSeq (sIf (tOr (tNot (tVal (eFn 2 (lCons (eV 0) lNil)))) (tNot (tBl (eChn (eC (.int 1)) [(.LtE, eBi .len (lCons (eV 0) lNil)), (.LtE, eC (.int 8))])))) (sSeq (sRaise 1) sNext) sNext) sNext
def d_look_at_word : FDef := ⟨1, 1, b_look_at_word⟩
abbrev F_places_in : Nat := 92
/-- slots: plain 0, word 1, place 2 -/
def b_places_in : TSt := sSeq (sRet (eLc (iRng1 (eBi .len (lCons (eV 0) lNil))) (gN 2) (tBl (eCmp .Eq (eSl (eV 0) (oSome (eV 2)) (oSome (eBin .Add (eV 2) (eBi .len (lCons (eV 1) lNil))))) (eV 1))) (eV 2) [2])) sNext
def d_places_in : FDef := ⟨2, 3, b_places_in⟩
abbrev F_Finder___init__ : Nat := 93
/-- slots: self 0, shelf 1, word 2 -/
def b_Finder___init__ : TSt := sSeq (sSetAt (eV 0) 11 (eV 1)) (sSeq (sSetAt (eV 0) 14 (eV 2)) (sSeq (sSetAt (eV 0) 15 (eDisp [(eC (.int 0), eC (.int 0))])) (sSeq (sSetAt (eV 0) 16 eDict0) sNext)))
def d_Finder___init__ : FDef := ⟨3, 3, b_Finder___init__⟩
abbrev F_Finder_ends_of : Nat := 94
/-- slots: self 0, text 1, reach 2, piece 3, head 4, tail 5 -/
def b_Finder_ends_of : TSt := sSeq (sIf (tBl (eCmp .NotIn (eV 1) (eAt (eV 0) 16))) (sSeq (sAsg (eBin .Sub (eBi .len (lCons (eAt (eV 0) 14) lNil)) (eC (.int 1))) (gN 2)) (sSeq (sAsg (eMt [(0, 13)] (eAt (eV 0) 11) (lCons (eV 1) lNil)) (gN 3)) (sSeq (sIf (tBl (eCmp .Eq (eIx (eV 3) (eC (.int 0))) (eC (.str "leaf")))) (sSeq (sAsg (eIx (eV 3) (eC (.int 1))) (gN 4)) (sSeq (sAsg (eIx (eV 3) (eC (.int 1))) (gN 5)) sNext)) (sSeq (sAsg (eBin .Add (eIx (eMt [(3, 94)] (eV 0) (lCons (eIx (eV 3) (eC (.int 1))) lNil)) (eC (.int 0))) (eIx (eMt [(3, 94)] (eV 0) (lCons (eIx (eV 3) (eC (.int 2))) lNil)) (eC (.int 0)))) (gN 4)) (sSeq (sAsg (eBin .Add (eIx (eMt [(3, 94)] (eV 0) (lCons (eIx (eV 3) (eC (.int 1))) lNil)) (eC (.int 1))) (eIx (eMt [(3, 94)] (eV 0) (lCons (eIx (eV 3) (eC (.int 2))) lNil)) (eC (.int 1)))) (gN 5)) sNext))) (sSeq (sSetIx (eAt (eV 0) 16) (eV 1) (eTup (lCons (eSl (eV 4) oNone (oSome (eV 2))) (lCons (eSl (eV 5) (oSome (eBi .max (lCons (eC (.int 0)) (lCons (eBin .Sub (eBi .len (lCons (eV 5) lNil)) (eV 2)) lNil)))) oNone) lNil)))) sNext)))) sNext) (sSeq (sRet (eIx (eAt (eV 0) 16) (eV 1))) sNext)
def d_Finder_ends_of : FDef := ⟨2, 6, b_Finder_ends_of⟩
abbrev F_Finder_seam : Nat := 95
/-- slots: self 0, one 1, other 2, tail 3, begin 4 -/
def b_Finder_seam : TSt := sSeq (sAsg (eIx (eMt [(3, 94)] (eV 0) (lCons (eV 1) lNil)) (eC (.int 1))) (gN 3)) (sSeq (sAsg (eBin .Sub (eMt [(0, 14)] (eAt (eV 0) 11) (lCons (eV 1) lNil)) (eBi .len (lCons (eV 3) lNil))) (gN 4)) (sSeq (sRet (eTup (lCons (eV 4) (lCons (eFn 92 (lCons (eBin .Add (eV 3) (eIx (eMt [(3, 94)] (eV 0) (lCons (eV 2) lNil)) (eC (.int 0)))) (lCons (eAt (eV 0) 14) lNil))) lNil)))) sNext))
def d_Finder_seam : FDef := ⟨3, 5, b_Finder_seam⟩
abbrev F_Finder_often : Nat := 96
/-- slots: self 0, text 1, piece 2, across 3 -/
def b_Finder_often : TSt := sSeq (sIf (tBl (eCmp .NotIn (eV 1) (eAt (eV 0) 15))) (sSeq (sAsg (eMt [(0, 13)] (eAt (eV 0) 11) (lCons (eV 1) lNil)) (gN 2)) (sSeq (sIf (tBl (eCmp .Eq (eIx (eV 2) (eC (.int 0))) (eC (.str "leaf")))) (sSeq (sSetIx (eAt (eV 0) 15) (eV 1) (eBi .len (lCons (eFn 92 (lCons (eIx (eV 2) (eC (.int 1))) (lCons (eAt (eV 0) 14) lNil))) lNil))) sNext) (sSeq (sAsg (eBi .len (lCons (eIx (eMt [(3, 95)] (eV 0) (lCons (eIx (eV 2) (eC (.int 1))) (lCons (eIx (eV 2) (eC (.int 2))) lNil))) (eC (.int 1))) lNil)) (gN 3)) (sSeq (sSetIx (eAt (eV 0) 15) (eV 1) (eBin .Add (eBin .Add (eMt [(3, 96)] (eV 0) (lCons (eIx (eV 2) (eC (.int 1))) lNil)) (eV 3)) (eMt [(3, 96)] (eV 0) (lCons (eIx (eV 2) (eC (.int 2))) lNil)))) sNext))) sNext)) sNext) (sSeq (sRet (eIx (eAt (eV 0) 15) (eV 1))) sNext)
def d_Finder_often : FDef := ⟨2, 4, b_Finder_often⟩
abbrev F_Finder_place : Nat := 97
/-- slots: self 0, text 1, k 2, ahead 3, piece 4, many 5, begin 6, across 7 -/
def b_Finder_place : TSt := sSeq (sAsg (eC (.int 0)) (gN 3)) (sSeq (sAsg (eMt [(0, 13)] (eAt (eV 0) 11) (lCons (eV 1) lNil)) (gN 4)) (sSeq (sWhile (tBl (eCmp .Eq (eIx (eV 4) (eC (.int 0))) (eC (.str "fork")))) (sSeq (sAsg (eMt [(3, 96)] (eV 0) (lCons (eIx (eV 4) (eC (.int 1))) lNil)) (gN 5)) (sSeq (sAsg (eMt [(3, 95)] (eV 0) (lCons (eIx (eV 4) (eC (.int 1))) (lCons (eIx (eV 4) (eC (.int 2))) lNil))) (gTp [6, 7])) (sSeq (sIf (tBl (eCmp .Lt (eV 2) (eV 5))) (sSeq (sAsg (eMt [(0, 13)] (eAt (eV 0) 11) (lCons (eIx (eV 4) (eC (.int 1))) lNil)) (gN 4)) sNext) (sSeq (sIf (tBl (eCmp .Lt (eV 2) (eBin .Add (eV 5) (eBi .len (lCons (eV 7) lNil))))) (sSeq (sRet (eBin .Add (eBin .Add (eV 3) (eV 6)) (eIx (eV 7) (eBin .Sub (eV 2) (eV 5))))) sNext) (sSeq (sAsg (eBin .Sub (eBin .Sub (eV 2) (eV 5)) (eBi .len (lCons (eV 7) lNil))) (gN 2)) (sSeq (sAsg (eBin .Add (eV 3) (eMt [(0, 14)] (eAt (eV 0) 11) (lCons (eIx (eV 4) (eC (.int 1))) lNil))) (gN 3)) (sSeq (sAsg (eMt [(0, 13)] (eAt (eV 0) 11) (lCons (eIx (eV 4) (eC (.int 2))) lNil)) (gN 4)) sNext)))) sNext)) sNext)))) (sSeq (sRet (eBin .Add (eV 3) (eIx (eFn 92 (lCons (eIx (eV 4) (eC (.int 1))) (lCons (eAt (eV 0) 14) lNil))) (eV 2)))) sNext)))
def d_Finder_place : FDef := ⟨3, 8, b_Finder_place⟩
abbrev F_count_of : Nat := 98
/-- slots: shelf 0, text 1, word 2 -/
def b_count_of : TSt := sSeq (sDrop (eMt [(0, 14)] (eV 0) (lCons (eV 1) lNil))) (sSeq (sDrop (eFn 91 (lCons (eV 2) lNil))) (sSeq (sRet (eMt [(3, 96)] (eMk 3 93 (lCons (eV 0) (lCons (eV 2) lNil))) (lCons (eV 1) lNil))) sNext))
def d_count_of : FDef := ⟨3, 3, b_count_of⟩
abbrev F_items_signs : Nat := 72
/-- slots: shelf 0, items 1, total 2, item 3 -/
def b_items_signs : TSt := sSeq (sAsg (eC (.int 0)) (gN 2)) (sSeq (sFor (iVal (eV 1)) (gN 3) (sSeq (sIf (tVal (eFn 1 (lCons (eV 3) lNil))) (sSeq (sIf (tBl (eCmp .Eq (eV 3) (eC (.int 0)))) (sSeq (sRaise 2) sNext) sNext) (sSeq (sAsg (eBin .Add (eV 2) (eMt [(0, 14)] (eV 0) (lCons (eV 3) lNil))) (gN 2)) sNext)) (sSeq (sAsg (eBin .Add (eV 2) (eBi .len (lCons (eV 3) lNil))) (gN 2)) sNext)) sNext)) (sSeq (sRet (eV 2)) sNext))
def d_items_signs : FDef := ⟨2, 4, b_items_signs⟩
abbrev F_Reader___init__ : Nat := 78
/-- slots: self 0, shelf 1, text 2 -/
def b_Reader___init__ : TSt := sSeq (sSetAt (eV 0) 11 (eV 1)) (sSeq (sSetAt (eV 0) 12 (eC (.str ""))) (sSeq (sSetAt (eV 0) 13 (eLst lNil)) (sSeq (sIf (tBl (eCmp .NotEq (eV 2) (eC (.int 0)))) (sSeq (sDrop (eBm .append (eAt (eV 0) 13) (lCons (eV 2) lNil))) sNext) sNext) sNext)))
def d_Reader___init__ : FDef := ⟨3, 3, b_Reader___init__⟩
abbrev F_Reader_is_over : Nat := 79
/-- slots: self 0 -/
def b_Reader_is_over : TSt := sSeq (sRet (eAnd (eCmp .Eq (eAt (eV 0) 12) (eC (.str ""))) (eCmp .Eq (eAt (eV 0) 13) (eLst lNil)))) sNext
def d_Reader_is_over : FDef := ⟨1, 1, b_Reader_is_over⟩
abbrev F_Reader_next_piece : Nat := 80
/-- slots: self 0 -/
def b_Reader_next_piece : TSt := sSeq (sIf (tOr (tBl (eCmp .NotEq (eAt (eV 0) 12) (eC (.str "")))) (tBl (eCmp .Eq (eAt (eV 0) 13) (eLst lNil)))) (sSeq (sRet (eC (.int 0))) sNext) sNext) (sSeq (sRet (eIx (eAt (eV 0) 13) (eNeg (eC (.int 1))))) sNext)
def d_Reader_next_piece : FDef := ⟨1, 1, b_Reader_next_piece⟩
abbrev F_Reader_passed : Nat := 81
/-- slots: self 0 -/
def b_Reader_passed : TSt := sSeq (sDrop (eBm .pop (eAt (eV 0) 13) lNil)) sNext
def d_Reader_passed : FDef := ⟨1, 1, b_Reader_passed⟩
abbrev F_Reader_opened : Nat := 82
/-- slots: self 0, piece 1 -/
def b_Reader_opened : TSt := sSeq (sAsg (eMt [(0, 13)] (eAt (eV 0) 11) (lCons (eBm .pop (eAt (eV 0) 13) lNil) lNil)) (gN 1)) (sSeq (sIf (tBl (eCmp .Eq (eIx (eV 1) (eC (.int 0))) (eC (.str "leaf")))) (sSeq (sSetAt (eV 0) 12 (eIx (eV 1) (eC (.int 1)))) sNext) (sSeq (sDrop (eBm .extend (eAt (eV 0) 13) (lCons (eLst (lCons (eIx (eV 1) (eC (.int 2))) (lCons (eIx (eV 1) (eC (.int 1))) lNil))) lNil))) sNext)) sNext)
def d_Reader_opened : FDef := ⟨1, 2, b_Reader_opened⟩
abbrev F_Reader_next_sign : Nat := 83
/-- slots: self 0 -/
def b_Reader_next_sign : TSt := sSeq (sWhile (tAnd (tBl (eCmp .Eq (eAt (eV 0) 12) (eC (.str "")))) (tBl (eCmp .NotEq (eAt (eV 0) 13) (eLst lNil)))) (sSeq (sDrop (eMt [(1, 63), (2, 82)] (eV 0) lNil)) sNext)) (sSeq (sRet (eSl (eAt (eV 0) 12) oNone (oSome (eC (.int 1))))) sNext)
def d_Reader_next_sign : FDef := ⟨1, 1, b_Reader_next_sign⟩
abbrev F_Reader_gone : Nat := 84
/-- slots: self 0, many 1 -/
def b_Reader_gone : TSt := sSeq (sSetAt (eV 0) 12 (eSl (eAt (eV 0) 12) (oSome (eV 1)) oNone)) sNext
def d_Reader_gone : FDef := ⟨2, 2, b_Reader_gone⟩
abbrev F_in_common : Nat := 85
/-- slots: one 0, other 1, many 2 -/
def b_in_common : TSt := sSeq (sAsg (eC (.int 0)) (gN 2)) (sSeq (sWhile (tAnd (tBl (eCmp .Lt (eV 2) (eBi .len (lCons (eV 0) lNil)))) (tAnd (tBl (eCmp .Lt (eV 2) (eBi .len (lCons (eV 1) lNil)))) (tBl (eCmp .Eq (eIx (eV 0) (eV 2)) (eIx (eV 1) (eV 2)))))) (sSeq (sAsg (eBin .Add (eV 2) (eC (.int 1))) (gN 2)) sNext)) (sSeq (sRet (eV 2)) sNext))
def d_in_common : FDef := ⟨2, 3, b_in_common⟩
abbrev F_opened_one : Nat := 86
/-- slots: shelf 0, one 1, other 2, here 3, there 4 -/
def b_opened_one : TSt := sSeq (sAsg (eMt [(2, 80)] (eV 1) lNil) (gN 3)) (sSeq (sAsg (eMt [(2, 80)] (eV 2) lNil) (gN 4)) (sSeq (sIf (tAnd (tBl (eCmp .Eq (eV 3) (eC (.int 0)))) (tBl (eCmp .Eq (eV 4) (eC (.int 0))))) (sSeq (sRet (eC (.bl false))) sNext) sNext) (sSeq (sIf (tOr (tBl (eCmp .Eq (eV 4) (eC (.int 0)))) (tAnd (tBl (eCmp .NotEq (eV 3) (eC (.int 0)))) (tBl (eCmp .GtE (eMt [(0, 14)] (eV 0) (lCons (eV 3) lNil)) (eMt [(0, 14)] (eV 0) (lCons (eV 4) lNil)))))) (sSeq (sDrop (eMt [(1, 63), (2, 82)] (eV 1) lNil)) sNext) (sSeq (sDrop (eMt [(1, 63), (2, 82)] (eV 2) lNil)) sNext)) (sSeq (sRet (eC (.bl true))) sNext))))
def d_opened_one : FDef := ⟨3, 5, b_opened_one⟩
abbrev F_with_signs : Nat := 87
/-- slots: items 0, plain 1, found 2 -/
def b_with_signs : TSt := sSeq (sAsg (eBi .list (lCons (eV 0) lNil)) (gN 2)) (sSeq (sIf (tAnd (tBl (eCmp .NotEq (eV 2) (eLst lNil))) (tAnd (tVal (eBi .isstr (lCons (eIx (eV 2) (eNeg (eC (.int 1)))) lNil))) (tBl (eCmp .LtE (eBin .Add (eBi .len (lCons (eIx (eV 2) (eNeg (eC (.int 1)))) lNil)) (eBi .len (lCons (eV 1) lNil))) (eC (.int 8)))))) (sSeq (sSetIx (eV 2) (eNeg (eC (.int 1))) (eBin .Add (eIx (eV 2) (eNeg (eC (.int 1)))) (eV 1))) sNext) (sSeq (sDrop (eBm .append (eV 2) (lCons (eV 1) lNil))) sNext)) (sSeq (sRet (eV 2)) sNext))
def d_with_signs : FDef := ⟨2, 3, b_with_signs⟩
abbrev F_held_together : Nat := 88
/-- slots: shelf 0, one 1, other 2, signs 3, here 4, there 5, items 6, many 7 -/
def b_held_together : TSt := sSeq (sAsg (eLst (lCons (eMt [(0, 14)] (eV 0) (lCons (eV 1) lNil)) (lCons (eMt [(0, 14)] (eV 0) (lCons (eV 2) lNil)) lNil))) (gN 3)) (sSeq (sIf (tAnd (tBl (eCmp .NotEq (eV 1) (eV 2))) (tBl (eCmp .Gt (eBi .max (lCons (eV 3) lNil)) (eC (.int 10000))))) (sSeq (sRaise 5) sNext) sNext) (sSeq (sAsg (eMk 2 78 (lCons (eV 0) (lCons (eV 1) lNil))) (gN 4)) (sSeq (sAsg (eMk 2 78 (lCons (eV 0) (lCons (eV 2) lNil))) (gN 5)) (sSeq (sAsg (eLst lNil) (gN 6)) (sSeq (sWhile (tAnd (tNot (tVal (eMt [(1, 61), (2, 79)] (eV 4) lNil))) (tNot (tVal (eMt [(1, 61), (2, 79)] (eV 5) lNil)))) (sSeq (sIf (tAnd (tBl (eCmp .NotEq (eMt [(2, 80)] (eV 4) lNil) (eC (.int 0)))) (tBl (eCmp .Eq (eMt [(2, 80)] (eV 4) lNil) (eMt [(2, 80)] (eV 5) lNil)))) (sSeq (sDrop (eBm .append (eV 6) (lCons (eMt [(2, 80)] (eV 4) lNil) lNil))) (sSeq (sDrop (eMt [(2, 81)] (eV 4) lNil)) (sSeq (sDrop (eMt [(2, 81)] (eV 5) lNil)) sNext))) (sSeq (sIf (tNot (tVal (eFn 86 (lCons (eV 0) (lCons (eV 4) (lCons (eV 5) lNil)))))) (sSeq (sAsg (eFn 85 (lCons (eAt (eV 4) 12) (lCons (eAt (eV 5) 12) lNil))) (gN 7)) (sSeq (sIf (tBl (eCmp .Eq (eV 7) (eC (.int 0)))) (sSeq sBrk sNext) sNext) (sSeq (sAsg (eFn 87 (lCons (eV 6) (lCons (eSl (eAt (eV 4) 12) oNone (oSome (eV 7))) lNil))) (gN 6)) (sSeq (sDrop (eMt [(2, 84)] (eV 4) (lCons (eV 7) lNil))) (sSeq (sDrop (eMt [(2, 84)] (eV 5) (lCons (eV 7) lNil))) sNext))))) sNext) sNext)) sNext)) (sSeq (sIf (tAnd (tVal (eMt [(1, 61), (2, 79)] (eV 4) lNil)) (tVal (eMt [(1, 61), (2, 79)] (eV 5) lNil))) (sSeq (sRet (eTup (lCons (eC (.str "alike")) (lCons (eV 6) lNil)))) sNext) sNext) (sSeq (sRet (eTup (lCons (eC (.str "apart")) (lCons (eV 6) (lCons (eMt [(2, 83)] (eV 4) lNil) (lCons (eMt [(2, 83)] (eV 5) lNil) lNil)))))) sNext)))))))
def d_held_together : FDef := ⟨3, 8, b_held_together⟩
abbrev F_rows_in : Nat := 32
/-- slots: shelf 0, text 1 -/
def b_rows_in : TSt := sSeq (sRet (eBin .Add (eMt [(0, 15)] (eV 0) (lCons (eV 1) lNil)) (eC (.int 1)))) sNext
def d_rows_in : FDef := ⟨2, 2, b_rows_in⟩
abbrev F_place_behind : Nat := 34
/-- slots: shelf 0, text 1, row 2, ahead 3, left 4, word 5, one 6, other 7, plain 8, places 9, place 10, sign 11 -/
def b_place_behind : TSt := sSeq (sAsg (eC (.int 0)) (gN 3)) (sSeq (sAsg (eV 2) (gN 4)) (sSeq (sWhile (tBl (eCmp .Gt (eMt [(0, 17)] (eV 0) (lCons (eV 1) lNil)) (eC (.int 0)))) (sSeq (sAsg (eMt [(0, 13)] (eV 0) (lCons (eV 1) lNil)) (gTp [5, 6, 7])) (sSeq (sIf (tBl (eCmp .LtE (eV 4) (eMt [(0, 15)] (eV 0) (lCons (eV 6) lNil)))) (sSeq (sAsg (eV 6) (gN 1)) sNext) (sSeq (sAsg (eBin .Sub (eV 4) (eMt [(0, 15)] (eV 0) (lCons (eV 6) lNil))) (gN 4)) (sSeq (sAsg (eBin .Add (eV 3) (eMt [(0, 14)] (eV 0) (lCons (eV 6) lNil))) (gN 3)) (sSeq (sAsg (eV 7) (gN 1)) sNext)))) sNext))) (sSeq (sAsg (eIx (eMt [(0, 13)] (eV 0) (lCons (eV 1) lNil)) (eC (.int 1))) (gN 8)) (sSeq (sAsg (eLc (iEnm (eV 8)) (gTp [10, 11]) (tBl (eCmp .Eq (eV 11) (eC (.str "\n")))) (eV 10) [10, 11]) (gN 9)) (sSeq (sRet (eBin .Add (eBin .Add (eV 3) (eIx (eV 9) (eBin .Sub (eV 4) (eC (.int 1))))) (eC (.int 1)))) sNext)))))
def d_place_behind : FDef := ⟨3, 12, b_place_behind⟩
abbrev F_row_begin : Nat := 35
/-- slots: shelf 0, text 1, row 2, many 3 -/
def b_row_begin : TSt := sSeq (sAsg (eFn 32 (lCons (eV 0) (lCons (eV 1) lNil))) (gN 3)) (sSeq (sIf (tNot (tBl (eChn (eC (.int 0)) [(.LtE, eV 2), (.Lt, eV 3)]))) (sSeq (sRaise 6) sNext) sNext) (sSeq (sIf (tBl (eCmp .Eq (eV 2) (eC (.int 0)))) (sSeq (sRet (eC (.int 0))) sNext) sNext) (sSeq (sRet (eFn 34 (lCons (eV 0) (lCons (eV 1) (lCons (eV 2) lNil))))) sNext)))
def d_row_begin : FDef := ⟨3, 4, b_row_begin⟩
abbrev F_row_end : Nat := 36
/-- slots: shelf 0, text 1, row 2 -/
def b_row_end : TSt := sSeq (sIf (tBl (eCmp .Eq (eBin .Add (eV 2) (eC (.int 1))) (eFn 32 (lCons (eV 0) (lCons (eV 1) lNil))))) (sSeq (sRet (eMt [(0, 14)] (eV 0) (lCons (eV 1) lNil))) sNext) sNext) (sSeq (sRet (eBin .Sub (eFn 34 (lCons (eV 0) (lCons (eV 1) (lCons (eBin .Add (eV 2) (eC (.int 1))) lNil)))) (eC (.int 1)))) sNext)
def d_row_end : FDef := ⟨3, 3, b_row_end⟩
abbrev F_row_text : Nat := 38
/-- slots: shelf 0, text 1, row 2, begin 3 -/
def b_row_text : TSt := sSeq (sAsg (eFn 35 (lCons (eV 0) (lCons (eV 1) (lCons (eV 2) lNil)))) (gN 3)) (sSeq (sRet (eFn 30 (lCons (eV 0) (lCons (eV 1) (lCons (eV 3) (lCons (eFn 36 (lCons (eV 0) (lCons (eV 1) (lCons (eV 2) lNil)))) lNil)))))) sNext)
def d_row_text : FDef := ⟨3, 4, b_row_text⟩
abbrev F_written : Nat := 118
/-- slots: plain 0 -/
def b_written : TSt := sSeq (sRet (eBm .replace (eBm .replace (eV 0) (lCons (eC (.str "\\")) (lCons (eC (.str "\\\\")) lNil))) (lCons (eC (.str "\n")) (lCons (eC (.str "\\n")) lNil)))) sNext
def d_written : FDef := ⟨1, 1, b_written⟩
abbrev F_read_written : Nat := 119
/-- slots: word 0, found 1, place 2, sign 3 -/
def b_read_written : TSt := sSeq (sIf (tOr (tNot (tVal (eFn 2 (lCons (eV 0) lNil)))) (tBl (eCmp .In (eC (.str "\n")) (eV 0)))) (sSeq (sRet (eC .non)) sNext) sNext) (sSeq (sAsg (eC (.str "")) (gN 1)) (sSeq (sAsg (eC (.int 0)) (gN 2)) (sSeq (sWhile (tBl (eCmp .Lt (eV 2) (eBi .len (lCons (eV 0) lNil)))) (sSeq (sAsg (eIx (eV 0) (eV 2)) (gN 3)) (sSeq (sIf (tBl (eCmp .Eq (eV 3) (eC (.str "\\")))) (sSeq (sAsg (eBin .Add (eV 2) (eC (.int 1))) (gN 2)) (sSeq (sAsg (eBm .get (eDisp [(eC (.str "n"), eC (.str "\n")), (eC (.str "\\"), eC (.str "\\"))]) (lCons (eSl (eV 0) (oSome (eV 2)) (oSome (eBin .Add (eV 2) (eC (.int 1))))) lNil)) (gN 3)) (sSeq (sIf (tBl (eCmp .Is (eV 3) (eC .non))) (sSeq (sRet (eC .non)) sNext) sNext) sNext))) sNext) (sSeq (sAsg (eBin .Add (eV 1) (eV 3)) (gN 1)) (sSeq (sAsg (eBin .Add (eV 2) (eC (.int 1))) (gN 2)) sNext))))) (sSeq (sRet (eV 1)) sNext))))
def d_read_written : FDef := ⟨1, 4, b_read_written⟩
abbrev F_number_in : Nat := 120
/-- slots: word 0, sign 1 -/
def b_number_in : TSt := sSeq (sIf (tOr (tNot (tBl (eChn (eC (.int 1)) [(.LtE, eBi .len (lCons (eV 0) lNil)), (.LtE, eC (.int 30))]))) (tNot (tVal (eBi .all (lCons (eLc (iVal (eV 0)) (gN 1) tYes (eCmp .In (eV 1) (eC (.str "0123456789"))) [1]) lNil))))) (sSeq (sRet (eC .non)) sNext) sNext) (sSeq (sIf (tAnd (tBl (eCmp .Eq (eIx (eV 0) (eC (.int 0))) (eC (.str "0")))) (tBl (eCmp .NotEq (eV 0) (eC (.str "0"))))) (sSeq (sRet (eC .non)) sNext) sNext) (sSeq (sRet (eBi .int (lCons (eV 0) lNil))) sNext))
def d_number_in : FDef := ⟨1, 2, b_number_in⟩
abbrev F_thing_in : Nat := 126
/-- slots: word 0, kind 1, found 2 -/
def b_thing_in : TSt := sSeq (sAsg (eC .non) (gN 2)) (sSeq (sIf (tAnd (tBl (eCmp .Eq (eV 1) (eC (.str "n")))) (tVal (eFn 3 (lCons (eV 0) lNil)))) (sSeq (sAsg (eV 0) (gN 2)) sNext) (sSeq (sIf (tBl (eCmp .Eq (eV 1) (eC (.str "w")))) (sSeq (sAsg (eFn 120 (lCons (eV 0) lNil)) (gN 2)) sNext) (sSeq (sIf (tBl (eCmp .Eq (eV 1) (eC (.str "t")))) (sSeq (sAsg (eFn 119 (lCons (eV 0) lNil)) (gN 2)) sNext) sNext) sNext)) sNext)) (sSeq (sIf (tBl (eCmp .Is (eV 2) (eC .non))) (sSeq (sRaise 10) sNext) sNext) (sSeq (sRet (eV 2)) sNext)))
def d_thing_in : FDef := ⟨2, 3, b_thing_in⟩
abbrev F_done_by : Nat := 128
/-- slots: house 0, first 1, things 2 -/
def b_done_by : TSt := sSeq (sIf (tBl (eCmp .Eq (eV 1) (eC (.str "new")))) (sSeq (sDrop (eMt [(4, 109)] (eV 0) (lCons (eIx (eV 2) (eC (.int 0))) (lCons (eIx (eV 2) (eC (.int 1))) lNil)))) sNext) (sSeq (sIf (tBl (eCmp .Eq (eV 1) (eC (.str "copy")))) (sSeq (sDrop (eMt [(4, 110)] (eV 0) (lCons (eIx (eV 2) (eC (.int 0))) (lCons (eIx (eV 2) (eC (.int 1))) lNil)))) sNext) (sSeq (sIf (tBl (eCmp .Eq (eV 1) (eC (.str "join")))) (sSeq (sDrop (eMt [(4, 111)] (eV 0) (lCons (eIx (eV 2) (eC (.int 0))) (lCons (eIx (eV 2) (eC (.int 1))) lNil)))) sNext) (sSeq (sIf (tBl (eCmp .Eq (eV 1) (eC (.str "put")))) (sSeq (sDrop (eMt [(4, 112)] (eV 0) (lCons (eIx (eV 2) (eC (.int 0))) (lCons (eIx (eV 2) (eC (.int 1))) (lCons (eIx (eV 2) (eC (.int 2))) lNil))))) sNext) (sSeq (sIf (tBl (eCmp .Eq (eV 1) (eC (.str "take")))) (sSeq (sDrop (eMt [(4, 113)] (eV 0) (lCons (eIx (eV 2) (eC (.int 0))) (lCons (eIx (eV 2) (eC (.int 1))) (lCons (eIx (eV 2) (eC (.int 2))) lNil))))) sNext) (sSeq (sIf (tBl (eCmp .Eq (eV 1) (eC (.str "drop")))) (sSeq (sDrop (eMt [(4, 115)] (eV 0) (lCons (eIx (eV 2) (eC (.int 0))) lNil))) sNext) (sSeq (sIf (tBl (eCmp .Eq (eV 1) (eC (.str "times")))) (sSeq (sDrop (eMt [(4, 114)] (eV 0) (lCons (eIx (eV 2) (eC (.int 0))) (lCons (eIx (eV 2) (eC (.int 1))) lNil)))) sNext) (sSeq (sIf (tBl (eCmp .Eq (eV 1) (eC (.str "back")))) (sSeq (sDrop (eMt [(4, 116)] (eV 0) lNil)) sNext) (sSeq (sDrop (eMt [(4, 117)] (eV 0) lNil)) sNext)) sNext)) sNext)) sNext)) sNext)) sNext)) sNext)) sNext)) (sSeq (sRet (eC (.str "ok"))) sNext)
def d_done_by : FDef := ⟨3, 3, b_done_by⟩
abbrev F_alike_answer : Nat := 129
/-- slots: house 0, one 1, other 2, told 3 -/
def b_alike_answer : TSt := sSeq (sAsg (eFn 88 (lCons (eMt [(4, 104)] (eV 0) lNil) (lCons (eMt [(4, 106)] (eV 0) (lCons (eV 1) lNil)) (lCons (eMt [(4, 106)] (eV 0) (lCons (eV 2) lNil)) lNil)))) (gN 3)) (sSeq (sIf (tBl (eCmp .Eq (eIx (eV 3) (eC (.int 0))) (eC (.str "alike")))) (sSeq (sRet (eC (.str "yes"))) sNext) sNext) (sSeq (sRet (eBin .Add (eC (.str "no ")) (eBi .str (lCons (eFn 72 (lCons (eMt [(4, 104)] (eV 0) lNil) (lCons (eIx (eV 3) (eC (.int 1))) lNil))) lNil)))) sNext))
def d_alike_answer : FDef := ⟨3, 4, b_alike_answer⟩
abbrev F_number_answer : Nat := 130
/-- slots: shelf 0, text 1, first 2 -/
def b_number_answer : TSt := sSeq (sIf (tBl (eCmp .Eq (eV 2) (eC (.str "signs")))) (sSeq (sRet (eBi .str (lCons (eMt [(0, 14)] (eV 0) (lCons (eV 1) lNil)) lNil))) sNext) sNext) (sSeq (sIf (tBl (eCmp .Eq (eV 2) (eC (.str "rows")))) (sSeq (sRet (eBi .str (lCons (eFn 32 (lCons (eV 0) (lCons (eV 1) lNil))) lNil))) sNext) sNext) (sSeq (sRet (eBi .str (lCons (eMt [(0, 17)] (eV 0) (lCons (eV 1) lNil)) lNil))) sNext))
def d_number_answer : FDef := ⟨3, 3, b_number_answer⟩
abbrev F_answer_by : Nat := 131
/-- slots: house 0, first 1, things 2, shelf 3, text 4 -/
def b_answer_by : TSt := sSeq (sIf (tBl (eCmp .Eq (eV 1) (eC (.str "names")))) (sSeq (sRet (eOr (eBm .join (eC (.str " ")) (lCons (eMt [(4, 105)] (eV 0) lNil) lNil)) (eC (.str "-")))) sNext) sNext) (sSeq (sIf (tBl (eCmp .Eq (eV 1) (eC (.str "pieces")))) (sSeq (sRet (eBi .str (lCons (eMt [(0, 12)] (eMt [(4, 104)] (eV 0) lNil) lNil) lNil))) sNext) sNext) (sSeq (sIf (tBl (eCmp .Eq (eV 1) (eC (.str "alike")))) (sSeq (sRet (eFn 129 (lCons (eV 0) (lCons (eIx (eV 2) (eC (.int 0))) (lCons (eIx (eV 2) (eC (.int 1))) lNil))))) sNext) sNext) (sSeq (sAsg (eMt [(4, 104)] (eV 0) lNil) (gN 3)) (sSeq (sAsg (eMt [(4, 106)] (eV 0) (lCons (eIx (eV 2) (eC (.int 0))) lNil)) (gN 4)) (sSeq (sIf (tBl (eCmp .Eq (eV 1) (eC (.str "read")))) (sSeq (sRet (eFn 118 (lCons (eFn 30 (lCons (eV 3) (lCons (eV 4) (lCons (eIx (eV 2) (eC (.int 1))) (lCons (eIx (eV 2) (eC (.int 2))) lNil))))) lNil))) sNext) sNext) (sSeq (sIf (tBl (eCmp .Eq (eV 1) (eC (.str "row")))) (sSeq (sRet (eFn 118 (lCons (eFn 38 (lCons (eV 3) (lCons (eV 4) (lCons (eIx (eV 2) (eC (.int 1))) lNil)))) lNil))) sNext) sNext) (sSeq (sIf (tBl (eCmp .Eq (eV 1) (eC (.str "count")))) (sSeq (sRet (eBi .str (lCons (eFn 98 (lCons (eV 3) (lCons (eV 4) (lCons (eIx (eV 2) (eC (.int 1))) lNil)))) lNil))) sNext) sNext) (sSeq (sRet (eFn 130 (lCons (eV 3) (lCons (eV 4) (lCons (eV 1) lNil))))) sNext))))))))
def d_answer_by : FDef := ⟨3, 5, b_answer_by⟩
abbrev F_Desk___init__ : Nat := 132
/-- slots: self 0 -/
def b_Desk___init__ : TSt := sSeq (sSetAt (eV 0) 20 (eMk 4 103 lNil)) sNext
def d_Desk___init__ : FDef := ⟨1, 1, b_Desk___init__⟩
abbrev F_cut_at : Nat := 56
/-- slots: shelf 0, text 1, at 2 -/
def b_cut_at : TSt := sSeq (sDrop (eFn 53 (lCons (eV 0) (lCons (eV 1) (lCons (eV 2) (lCons (eMt [(0, 14)] (eV 0) (lCons (eV 1) lNil)) lNil)))))) (sSeq (sRet (eFn 55 (lCons (eV 0) (lCons (eV 1) (lCons (eV 2) lNil))))) sNext)
def d_cut_at : FDef := ⟨3, 3, b_cut_at⟩
abbrev F_kept_part : Nat := 59
/-- slots: shelf 0, text 1, begin 2, end 3, left 4 -/
def b_kept_part : TSt := sSeq (sDrop (eFn 53 (lCons (eV 0) (lCons (eV 1) (lCons (eV 2) (lCons (eV 3) lNil)))))) (sSeq (sAsg (eIx (eFn 55 (lCons (eV 0) (lCons (eV 1) (lCons (eV 3) lNil)))) (eC (.int 0))) (gN 4)) (sSeq (sRet (eIx (eFn 55 (lCons (eV 0) (lCons (eV 4) (lCons (eV 2) lNil)))) (eC (.int 1)))) sNext))
def d_kept_part : FDef := ⟨4, 5, b_kept_part⟩
abbrev F_Front___init__ : Nat := 60
/-- slots: self 0, shelf 1, text 2 -/
def b_Front___init__ : TSt := sSeq (sSetAt (eV 0) 8 (eV 1)) (sSeq (sSetAt (eV 0) 9 (eC (.str ""))) (sSeq (sSetAt (eV 0) 10 (eLst lNil)) (sSeq (sIf (tBl (eCmp .NotEq (eV 2) (eC (.int 0)))) (sSeq (sDrop (eBm .append (eAt (eV 0) 10) (lCons (eV 2) lNil))) sNext) sNext) sNext)))
def d_Front___init__ : FDef := ⟨3, 3, b_Front___init__⟩
abbrev F_Front_is_over : Nat := 61
/-- slots: self 0 -/
def b_Front_is_over : TSt := sSeq (sRet (eAnd (eCmp .Eq (eAt (eV 0) 9) (eC (.str ""))) (eCmp .Eq (eAt (eV 0) 10) (eLst lNil)))) sNext
def d_Front_is_over : FDef := ⟨1, 1, b_Front_is_over⟩
abbrev F_Front_next_text : Nat := 62
/-- slots: self 0 -/
def b_Front_next_text : TSt := sSeq (sIf (tOr (tBl (eCmp .NotEq (eAt (eV 0) 9) (eC (.str "")))) (tBl (eCmp .Eq (eAt (eV 0) 10) (eLst lNil)))) (sSeq (sRet (eC (.int 0))) sNext) sNext) (sSeq (sRet (eIx (eAt (eV 0) 10) (eNeg (eC (.int 1))))) sNext)
def d_Front_next_text : FDef := ⟨1, 1, b_Front_next_text⟩
abbrev F_Front_opened : Nat := 63
/-- slots: self 0, text 1, one 2, other 3 -/
def b_Front_opened : TSt := sSeq (sAsg (eBm .pop (eAt (eV 0) 10) lNil) (gN 1)) (sSeq (sIf (tVal (eFn 39 (lCons (eAt (eV 0) 8) (lCons (eV 1) lNil)))) (sSeq (sSetAt (eV 0) 9 (eFn 47 (lCons (eAt (eV 0) 8) (lCons (eV 1) lNil)))) sNext) (sSeq (sAsg (eFn 40 (lCons (eAt (eV 0) 8) (lCons (eV 1) lNil))) (gTp [2, 3])) (sSeq (sDrop (eBm .append (eAt (eV 0) 10) (lCons (eV 3) lNil))) (sSeq (sDrop (eBm .append (eAt (eV 0) 10) (lCons (eV 2) lNil))) sNext)))) sNext)
def d_Front_opened : FDef := ⟨1, 4, b_Front_opened⟩
abbrev F_Front_next_signs : Nat := 64
/-- slots: self 0 -/
def b_Front_next_signs : TSt := sSeq (sWhile (tAnd (tBl (eCmp .Eq (eAt (eV 0) 9) (eC (.str "")))) (tBl (eCmp .NotEq (eAt (eV 0) 10) (eLst lNil)))) (sSeq (sDrop (eMt [(1, 63), (2, 82)] (eV 0) lNil)) sNext)) (sSeq (sRet (eAt (eV 0) 9)) sNext)
def d_Front_next_signs : FDef := ⟨1, 1, b_Front_next_signs⟩
abbrev F_Front_go_on : Nat := 65
/-- slots: self 0, many 1 -/
def b_Front_go_on : TSt := sSeq (sSetAt (eV 0) 9 (eSl (eAt (eV 0) 9) (oSome (eV 1)) oNone)) sNext
def d_Front_go_on : FDef := ⟨2, 2, b_Front_go_on⟩
abbrev F_Front_by_piece : Nat := 66
/-- slots: self 0, number 1, signs 2 -/
def b_Front_by_piece : TSt := sSeq (sIf (tNot (tBl (eChn (eC (.int 0)) [(.Lt, eV 1), (.LtE, eMt [(0, 12)] (eAt (eV 0) 8) lNil)]))) (sSeq (sRet (eC (.bl false))) sNext) sNext) (sSeq (sAsg (eMt [(0, 14)] (eAt (eV 0) 8) (lCons (eV 1) lNil)) (gN 2)) (sSeq (sWhile (tAnd (tBl (eCmp .NotEq (eMt [(1, 62)] (eV 0) lNil) (eC (.int 0)))) (tBl (eCmp .NotEq (eMt [(1, 62)] (eV 0) lNil) (eV 1)))) (sSeq (sIf (tBl (eCmp .LtE (eMt [(0, 14)] (eAt (eV 0) 8) (lCons (eMt [(1, 62)] (eV 0) lNil) lNil)) (eV 2))) (sSeq (sRet (eC (.bl false))) sNext) sNext) (sSeq (sDrop (eMt [(1, 63), (2, 82)] (eV 0) lNil)) sNext))) (sSeq (sIf (tBl (eCmp .Eq (eMt [(1, 62)] (eV 0) lNil) (eC (.int 0)))) (sSeq (sRet (eC (.bl false))) sNext) sNext) (sSeq (sDrop (eBm .pop (eAt (eV 0) 10) lNil)) (sSeq (sRet (eC (.bl true))) sNext)))))
def d_Front_by_piece : FDef := ⟨2, 3, b_Front_by_piece⟩
abbrev F_Front_by_signs : Nat := 67
/-- slots: self 0, plain 1, sign 2 -/
def b_Front_by_signs : TSt := sSeq (sFor (iVal (eV 1)) (gN 2) (sSeq (sIf (tBl (eCmp .NotEq (eSl (eMt [(1, 64)] (eV 0) lNil) oNone (oSome (eC (.int 1)))) (eV 2))) (sSeq (sRet (eC (.bl false))) sNext) sNext) (sSeq (sDrop (eMt [(1, 65)] (eV 0) (lCons (eC (.int 1)) lNil))) sNext))) (sSeq (sRet (eC (.bl true))) sNext)
def d_Front_by_signs : FDef := ⟨2, 3, b_Front_by_signs⟩
abbrev F_is_plain_item : Nat := 68
/-- slots: item 0 -/
def b_is_plain_item : TSt := sSeq (sRet (eAnd (eFn 2 (lCons (eV 0) lNil)) (eChn (eC (.int 1)) [(.LtE, eBi .len (lCons (eV 0) lNil)), (.LtE, eC (.int 8))]))) sNext
def d_is_plain_item : FDef := ⟨1, 1, b_is_plain_item⟩
abbrev F_spell_on : Nat := 69
/-- slots: front 0, items 1, item 2 -/
def b_spell_on : TSt := sSeq (sFor (iVal (eV 1)) (gN 2) (sSeq (sIf (tVal (eFn 1 (lCons (eV 2) lNil))) (sSeq (sIf (tNot (tVal (eMt [(1, 66)] (eV 0) (lCons (eV 2) lNil)))) (sSeq (sRet (eC (.bl false))) sNext) sNext) sNext) (sSeq (sIf (tOr (tNot (tVal (eFn 68 (lCons (eV 2) lNil)))) (tNot (tVal (eMt [(1, 67)] (eV 0) (lCons (eV 2) lNil))))) (sSeq (sRet (eC (.bl false))) sNext) sNext) sNext)) sNext)) (sSeq (sRet (eC (.bl true))) sNext)
def d_spell_on : FDef := ⟨2, 3, b_spell_on⟩
abbrev F_spells : Nat := 70
/-- slots: shelf 0, text 1, items 2, front 3 -/
def b_spells : TSt := sSeq (sDrop (eMt [(0, 14)] (eV 0) (lCons (eV 1) lNil))) (sSeq (sAsg (eMk 1 60 (lCons (eV 0) (lCons (eV 1) lNil))) (gN 3)) (sSeq (sRet (eAnd (eFn 69 (lCons (eV 3) (lCons (eV 2) lNil))) (eMt [(1, 61), (2, 79)] (eV 3) lNil))) sNext))
def d_spells : FDef := ⟨3, 4, b_spells⟩
abbrev F_met : Nat := 73
/-- slots: shelf 0, one 1, other 2, mine 3, yours 4 -/
def b_met : TSt := sSeq (sWhile (tVal (eC (.bl true))) (sSeq (sAsg (eMt [(1, 62)] (eV 1) lNil) (gN 3)) (sSeq (sAsg (eMt [(1, 62)] (eV 2) lNil) (gN 4)) (sSeq (sIf (tAnd (tBl (eCmp .Eq (eV 3) (eV 4))) (tBl (eCmp .NotEq (eV 3) (eC (.int 0))))) (sSeq (sDrop (eMt [(1, 66)] (eV 1) (lCons (eV 3) lNil))) (sSeq (sDrop (eMt [(1, 66)] (eV 2) (lCons (eV 3) lNil))) (sSeq (sRet (eV 3)) sNext))) sNext) (sSeq (sIf (tAnd (tBl (eCmp .LtE (eMt [(0, 17)] (eV 0) (lCons (eV 3) lNil)) (eC (.int 0)))) (tBl (eCmp .LtE (eMt [(0, 17)] (eV 0) (lCons (eV 4) lNil)) (eC (.int 0))))) (sSeq (sRet (eFn 74 (lCons (eV 1) (lCons (eV 2) lNil)))) sNext) sNext) (sSeq (sIf (tBl (eCmp .GtE (eMt [(0, 14)] (eV 0) (lCons (eV 3) lNil)) (eMt [(0, 14)] (eV 0) (lCons (eV 4) lNil)))) (sSeq (sDrop (eMt [(1, 63), (2, 82)] (eV 1) lNil)) sNext) (sSeq (sDrop (eMt [(1, 63), (2, 82)] (eV 2) lNil)) sNext)) sNext)))))) sNext
def d_met : FDef := ⟨3, 5, b_met⟩
abbrev F_met_signs : Nat := 74
/-- slots: one 0, other 1, mine 2, yours 3, many 4 -/
def b_met_signs : TSt := sSeq (sAsg (eMt [(1, 64)] (eV 0) lNil) (gN 2)) (sSeq (sAsg (eMt [(1, 64)] (eV 1) lNil) (gN 3)) (sSeq (sAsg (eBi .min (lCons (eBi .len (lCons (eV 2) lNil)) (lCons (eBi .len (lCons (eV 3) lNil)) lNil))) (gN 4)) (sSeq (sIf (tOr (tBl (eCmp .Eq (eV 4) (eC (.int 0)))) (tBl (eCmp .NotEq (eSl (eV 2) oNone (oSome (eV 4))) (eSl (eV 3) oNone (oSome (eV 4)))))) (sSeq (sRet (eC .non)) sNext) sNext) (sSeq (sDrop (eMt [(1, 65)] (eV 0) (lCons (eV 4) lNil))) (sSeq (sDrop (eMt [(1, 65)] (eV 1) (lCons (eV 4) lNil))) (sSeq (sRet (eSl (eV 2) oNone (oSome (eV 4)))) sNext))))))
def d_met_signs : FDef := ⟨2, 5, b_met_signs⟩
abbrev F_spelled_by : Nat := 75
/-- slots: shelf 0, front 1, text 2, mine 3, items 4, item 5 -/
def b_spelled_by : TSt := sSeq (sAsg (eMk 1 60 (lCons (eV 0) (lCons (eV 2) lNil))) (gN 3)) (sSeq (sAsg (eLst lNil) (gN 4)) (sSeq (sWhile (tNot (tVal (eMt [(1, 61), (2, 79)] (eV 3) lNil))) (sSeq (sAsg (eFn 73 (lCons (eV 0) (lCons (eV 3) (lCons (eV 1) lNil)))) (gN 5)) (sSeq (sIf (tBl (eCmp .Is (eV 5) (eC .non))) (sSeq (sRet (eC .non)) sNext) sNext) (sSeq (sDrop (eBm .append (eV 4) (lCons (eV 5) lNil))) sNext)))) (sSeq (sRet (eV 4)) sNext)))
def d_spelled_by : FDef := ⟨3, 6, b_spelled_by⟩
abbrev F_paper_of : Nat := 76
/-- slots: shelf 0, texts 1, other 2, text 3, front 4, paper 5, items 6 -/
def b_paper_of : TSt := sSeq (sFor (iVal (eBin .Add (eV 1) (eLst (lCons (eV 2) lNil)))) (gN 3) (sSeq (sDrop (eMt [(0, 14)] (eV 0) (lCons (eV 3) lNil))) sNext)) (sSeq (sAsg (eMk 1 60 (lCons (eV 0) (lCons (eV 2) lNil))) (gN 4)) (sSeq (sAsg (eLst lNil) (gN 5)) (sSeq (sFor (iVal (eV 1)) (gN 3) (sSeq (sAsg (eFn 75 (lCons (eV 0) (lCons (eV 4) (lCons (eV 3) lNil)))) (gN 6)) (sSeq (sIf (tBl (eCmp .Is (eV 6) (eC .non))) (sSeq (sRet (eC .non)) sNext) sNext) (sSeq (sDrop (eBm .append (eV 5) (lCons (eV 6) lNil))) sNext)))) (sSeq (sIf (tNot (tVal (eMt [(1, 61), (2, 79)] (eV 4) lNil))) (sSeq (sRet (eC .non)) sNext) sNext) (sSeq (sRet (eV 5)) sNext)))))
def d_paper_of : FDef := ⟨3, 7, b_paper_of⟩
abbrev F_paper_stands : Nat := 77
/-- slots: shelf 0, texts 1, other 2, paper 3, text 4, line 5, items 6 -/
def b_paper_stands : TSt := sSeq (sFor (iVal (eBin .Add (eV 1) (eLst (lCons (eV 2) lNil)))) (gN 4) (sSeq (sDrop (eMt [(0, 14)] (eV 0) (lCons (eV 4) lNil))) sNext)) (sSeq (sIf (tBl (eCmp .NotEq (eBi .len (lCons (eV 3) lNil)) (eBi .len (lCons (eV 1) lNil)))) (sSeq (sRet (eC (.bl false))) sNext) sNext) (sSeq (sAsg (eLst lNil) (gN 5)) (sSeq (sFor (iZip (eV 1) (eV 3)) (gTp [4, 6]) (sSeq (sIf (tNot (tVal (eFn 70 (lCons (eV 0) (lCons (eV 4) (lCons (eV 6) lNil)))))) (sSeq (sRet (eC (.bl false))) sNext) sNext) (sSeq (sDrop (eBm .extend (eV 5) (lCons (eV 6) lNil))) sNext))) (sSeq (sRet (eFn 70 (lCons (eV 0) (lCons (eV 2) (lCons (eV 5) lNil))))) sNext))))
def d_paper_stands : FDef := ⟨4, 7, b_paper_stands⟩
abbrev F_shelf_text : Nat := 122
/-- slots: shelf 0, number 1 -/
def b_shelf_text : TSt := sSeq (sRet (eBm .join (eC (.str "\n")) (lCons (eLc (iRng1 (eMt [(0, 12)] (eV 0) lNil)) (gN 1) tYes (eFn 121 (lCons (eMt [(0, 13)] (eV 0) (lCons (eBin .Add (eV 1) (eC (.int 1))) lNil)) lNil)) [1]) lNil))) sNext
def d_shelf_text : FDef := ⟨1, 2, b_shelf_text⟩
abbrev F_laid_by : Nat := 123
/-- slots: shelf 0, row 1, word 2, blank 3, rest 4, plain 5, numbers 6, part 7 -/
def b_laid_by : TSt := sSeq (sAsg (eBm .partition (eV 1) (lCons (eC (.str " ")) lNil)) (gTp [2, 3, 4])) (sSeq (sIf (tAnd (tBl (eCmp .Eq (eV 2) (eC (.str "leaf")))) (tBl (eCmp .Eq (eV 3) (eC (.str " "))))) (sSeq (sAsg (eFn 119 (lCons (eV 4) lNil)) (gN 5)) (sSeq (sIf (tBl (eCmp .Is (eV 5) (eC .non))) (sSeq (sRet (eC (.bl false))) sNext) sNext) (sSeq (sDrop (eMt [(0, 21)] (eV 0) (lCons (eV 5) lNil))) (sSeq (sRet (eC (.bl true))) sNext)))) sNext) (sSeq (sAsg (eLc (iVal (eBm .split (eV 4) (lCons (eC (.str " ")) lNil))) (gN 7) tYes (eFn 120 (lCons (eV 7) lNil)) [7]) (gN 6)) (sSeq (sIf (tOr (tBl (eCmp .NotEq (eV 2) (eC (.str "fork")))) (tOr (tBl (eCmp .NotEq (eBi .len (lCons (eV 6) lNil)) (eC (.int 2)))) (tBl (eCmp .In (eC .non) (eV 6))))) (sSeq (sRet (eC (.bl false))) sNext) sNext) (sSeq (sDrop (eMt [(0, 22)] (eV 0) (lCons (eIx (eV 6) (eC (.int 0))) (lCons (eIx (eV 6) (eC (.int 1))) lNil)))) (sSeq (sRet (eC (.bl true))) sNext)))))
def d_laid_by : FDef := ⟨2, 8, b_laid_by⟩
abbrev F_read_shelf : Nat := 125
/-- slots: plain 0, shelf 1, rows 2, number 3, row 4 -/
def b_read_shelf : TSt := sSeq (sAsg (eMk 0 9 lNil) (gN 1)) (sSeq (sAsg (eBm .split (eV 0) (lCons (eC (.str "\n")) lNil)) (gN 2)) (sSeq (sIf (tBl (eCmp .Eq (eV 0) (eC (.str "")))) (sSeq (sAsg (eLst lNil) (gN 2)) sNext) sNext) (sSeq (sFor (iEnm (eV 2)) (gTp [3, 4]) (sSeq (sIf (tNot (tVal (eFn 124 (lCons (eV 1) (lCons (eV 4) lNil))))) (sSeq (sRaise 9) sNext) sNext) sNext)) (sSeq (sRet (eV 1)) sNext))))
def d_read_shelf : FDef := ⟨1, 5, b_read_shelf⟩
abbrev F_place_of : Nat := 99
/-- slots: shelf 0, text 1, word 2, k 3, finder 4 -/
def b_place_of : TSt := sSeq (sDrop (eMt [(0, 14)] (eV 0) (lCons (eV 1) lNil))) (sSeq (sDrop (eFn 91 (lCons (eV 2) lNil))) (sSeq (sAsg (eMk 3 93 (lCons (eV 0) (lCons (eV 2) lNil))) (gN 4)) (sSeq (sIf (tNot (tBl (eChn (eC (.int 0)) [(.LtE, eV 3), (.Lt, eMt [(3, 96)] (eV 4) (lCons (eV 1) lNil))]))) (sSeq (sRaise 6) sNext) sNext) (sSeq (sRet (eMt [(3, 97)] (eV 4) (lCons (eV 1) (lCons (eV 3) lNil)))) sNext))))
def d_place_of : FDef := ⟨4, 5, b_place_of⟩
abbrev F_lies_in : Nat := 24
/-- slots: shelf 0, number 1, place 2, word 3, one 4, other 5, ahead 6 -/
def b_lies_in : TSt := sSeq (sAsg (eMt [(0, 13)] (eV 0) (lCons (eV 1) lNil)) (gTp [3, 4, 5])) (sSeq (sAsg (eMt [(0, 14)] (eV 0) (lCons (eV 4) lNil)) (gN 6)) (sSeq (sIf (tBl (eCmp .Lt (eV 2) (eV 6))) (sSeq (sRet (eTup (lCons (eV 4) (lCons (eV 2) lNil)))) sNext) sNext) (sSeq (sRet (eTup (lCons (eV 5) (lCons (eBin .Sub (eV 2) (eV 6)) lNil)))) sNext)))
def d_lies_in : FDef := ⟨3, 7, b_lies_in⟩
abbrev F_way_and_place : Nat := 25
/-- slots: shelf 0, text 1, place 2, signs 3, way 4, part 5 -/
def b_way_and_place : TSt := sSeq (sAsg (eMt [(0, 14)] (eV 0) (lCons (eV 1) lNil)) (gN 3)) (sSeq (sIf (tNot (tBl (eChn (eC (.int 0)) [(.LtE, eV 2), (.Lt, eV 3)]))) (sSeq (sRaise 6) sNext) sNext) (sSeq (sAsg (eLst (lCons (eV 1) lNil)) (gN 4)) (sSeq (sWhile (tBl (eCmp .Gt (eMt [(0, 17)] (eV 0) (lCons (eIx (eV 4) (eNeg (eC (.int 1)))) lNil)) (eC (.int 0)))) (sSeq (sAsg (eFn 24 (lCons (eV 0) (lCons (eIx (eV 4) (eNeg (eC (.int 1)))) (lCons (eV 2) lNil)))) (gTp [5, 2])) (sSeq (sDrop (eBm .append (eV 4) (lCons (eV 5) lNil))) sNext))) (sSeq (sRet (eTup (lCons (eV 4) (lCons (eV 2) lNil)))) sNext))))
def d_way_and_place : FDef := ⟨3, 6, b_way_and_place⟩
abbrev F_way_to : Nat := 26
/-- slots: shelf 0, text 1, place 2 -/
def b_way_to : TSt := sSeq (sRet (eIx (eFn 25 (lCons (eV 0) (lCons (eV 1) (lCons (eV 2) lNil)))) (eC (.int 0)))) sNext
def d_way_to : FDef := ⟨3, 3, b_way_to⟩
abbrev F_way_stands : Nat := 27
/-- slots: shelf 0, text 1, place 2, way 3, sign 4, signs 5, here 6, number 7, part 8 -/
def b_way_stands : TSt := sSeq (sAsg (eMt [(0, 14)] (eV 0) (lCons (eV 1) lNil)) (gN 5)) (sSeq (sIf (tOr (tNot (tBl (eChn (eC (.int 0)) [(.LtE, eV 2), (.Lt, eV 5)]))) (tOr (tBl (eCmp .Eq (eV 3) (eLst lNil))) (tBl (eCmp .NotEq (eIx (eV 3) (eC (.int 0))) (eV 1))))) (sSeq (sRet (eC (.bl false))) sNext) sNext) (sSeq (sAsg (eV 1) (gN 6)) (sSeq (sFor (iVal (eSl (eV 3) (oSome (eC (.int 1))) oNone)) (gN 7) (sSeq (sIf (tBl (eCmp .Eq (eMt [(0, 17)] (eV 0) (lCons (eV 6) lNil)) (eC (.int 0)))) (sSeq (sRet (eC (.bl false))) sNext) sNext) (sSeq (sAsg (eFn 24 (lCons (eV 0) (lCons (eV 6) (lCons (eV 2) lNil)))) (gTp [8, 2])) (sSeq (sIf (tBl (eCmp .NotEq (eV 7) (eV 8))) (sSeq (sRet (eC (.bl false))) sNext) sNext) (sSeq (sAsg (eV 8) (gN 6)) sNext))))) (sSeq (sIf (tBl (eCmp .Gt (eMt [(0, 17)] (eV 0) (lCons (eV 6) lNil)) (eC (.int 0)))) (sSeq (sRet (eC (.bl false))) sNext) sNext) (sSeq (sRet (eCmp .Eq (eIx (eIx (eMt [(0, 13)] (eV 0) (lCons (eV 6) lNil)) (eC (.int 1))) (eV 2)) (eV 4))) sNext)))))
def d_way_stands : FDef := ⟨5, 9, b_way_stands⟩
abbrev F_sign_at : Nat := 28
/-- slots: shelf 0, text 1, place 2, way 3, within 4 -/
def b_sign_at : TSt := sSeq (sAsg (eFn 25 (lCons (eV 0) (lCons (eV 1) (lCons (eV 2) lNil)))) (gTp [3, 4])) (sSeq (sRet (eIx (eIx (eMt [(0, 13)] (eV 0) (lCons (eIx (eV 3) (eNeg (eC (.int 1)))) lNil)) (eC (.int 1))) (eV 4))) sNext)
def d_sign_at : FDef := ⟨3, 5, b_sign_at⟩
abbrev F_ends_ahead : Nat := 33
/-- slots: shelf 0, text 1, place 2, many 3, word 4, one 5, other 6 -/
def b_ends_ahead : TSt := sSeq (sAsg (eC (.int 0)) (gN 3)) (sSeq (sWhile (tBl (eCmp .Gt (eMt [(0, 17)] (eV 0) (lCons (eV 1) lNil)) (eC (.int 0)))) (sSeq (sAsg (eMt [(0, 13)] (eV 0) (lCons (eV 1) lNil)) (gTp [4, 5, 6])) (sSeq (sIf (tBl (eCmp .Lt (eV 2) (eMt [(0, 14)] (eV 0) (lCons (eV 5) lNil)))) (sSeq (sAsg (eV 5) (gN 1)) sNext) (sSeq (sAsg (eBin .Add (eV 3) (eMt [(0, 15)] (eV 0) (lCons (eV 5) lNil))) (gN 3)) (sSeq (sAsg (eBin .Sub (eV 2) (eMt [(0, 14)] (eV 0) (lCons (eV 5) lNil))) (gN 2)) (sSeq (sAsg (eV 6) (gN 1)) sNext)))) sNext))) (sSeq (sIf (tBl (eCmp .Eq (eV 1) (eC (.int 0)))) (sSeq (sRet (eV 3)) sNext) sNext) (sSeq (sRet (eBin .Add (eV 3) (eBm .count (eSl (eIx (eMt [(0, 13)] (eV 0) (lCons (eV 1) lNil)) (eC (.int 1))) oNone (oSome (eV 2))) (lCons (eC (.str "\n")) lNil)))) sNext)))
def d_ends_ahead : FDef := ⟨3, 7, b_ends_ahead⟩
abbrev F_row_at : Nat := 37
/-- slots: shelf 0, text 1, place 2, signs 3, row 4 -/
def b_row_at : TSt := sSeq (sAsg (eMt [(0, 14)] (eV 0) (lCons (eV 1) lNil)) (gN 3)) (sSeq (sIf (tNot (tBl (eChn (eC (.int 0)) [(.LtE, eV 2), (.LtE, eV 3)]))) (sSeq (sRaise 6) sNext) sNext) (sSeq (sAsg (eFn 33 (lCons (eV 0) (lCons (eV 1) (lCons (eV 2) lNil)))) (gN 4)) (sSeq (sRet (eTup (lCons (eV 4) (lCons (eBin .Sub (eV 2) (eFn 35 (lCons (eV 0) (lCons (eV 1) (lCons (eV 4) lNil))))) lNil)))) sNext)))
def d_row_at : FDef := ⟨3, 5, b_row_at⟩
abbrev F_swept : Nat := 101
/-- slots: shelf 0, texts 1, clean 2, numbers 3, number 4, piece 5, text 6 -/
def b_swept : TSt := sSeq (sAsg (eMk 0 9 lNil) (gN 2)) (sSeq (sAsg (eDisp [(eC (.int 0), eC (.int 0))]) (gN 3)) (sSeq (sFor (iVal (eFn 100 (lCons (eV 0) (lCons (eV 1) lNil)))) (gN 4) (sSeq (sAsg (eMt [(0, 13)] (eV 0) (lCons (eV 4) lNil)) (gN 5)) (sSeq (sIf (tBl (eCmp .Eq (eIx (eV 5) (eC (.int 0))) (eC (.str "leaf")))) (sSeq (sSetIx (eV 3) (eV 4) (eMt [(0, 21)] (eV 2) (lCons (eIx (eV 5) (eC (.int 1))) lNil))) sNext) (sSeq (sSetIx (eV 3) (eV 4) (eMt [(0, 22)] (eV 2) (lCons (eIx (eV 3) (eIx (eV 5) (eC (.int 1)))) (lCons (eIx (eV 3) (eIx (eV 5) (eC (.int 2)))) lNil)))) sNext)) sNext))) (sSeq (sRet (eTup (lCons (eV 2) (lCons (eLc (iVal (eV 1)) (gN 6) tYes (eIx (eV 3) (eV 6)) [6]) lNil)))) sNext)))
def d_swept : FDef := ⟨2, 7, b_swept⟩
abbrev F_whole_text : Nat := 31
/-- slots: shelf 0, text 1 -/
def b_whole_text : TSt := sSeq (sRet (eFn 30 (lCons (eV 0) (lCons (eV 1) (lCons (eC (.int 0)) (lCons (eMt [(0, 14)] (eV 0) (lCons (eV 1) lNil)) lNil)))))) sNext
def d_whole_text : FDef := ⟨2, 2, b_whole_text⟩
abbrev F_begins_text : Nat := 71
/-- slots: shelf 0, text 1, items 2 -/
def b_begins_text : TSt := sSeq (sDrop (eMt [(0, 14)] (eV 0) (lCons (eV 1) lNil))) (sSeq (sRet (eFn 69 (lCons (eMk 1 60 (lCons (eV 0) (lCons (eV 1) lNil))) (lCons (eV 2) lNil)))) sNext)
def d_begins_text : FDef := ⟨3, 3, b_begins_text⟩
abbrev F_sign_behind : Nat := 89
/-- slots: shelf 0, text 1, place 2 -/
def b_sign_behind : TSt := sSeq (sIf (tBl (eCmp .GtE (eV 2) (eMt [(0, 14)] (eV 0) (lCons (eV 1) lNil)))) (sSeq (sRet (eC (.str ""))) sNext) sNext) (sSeq (sRet (eFn 28 (lCons (eV 0) (lCons (eV 1) (lCons (eV 2) lNil))))) sNext)
def d_sign_behind : FDef := ⟨3, 3, b_sign_behind⟩
abbrev F_told_stands : Nat := 90
/-- slots: shelf 0, one 1, other 2, told 3, items 4, place 5, here 6, there 7 -/
def b_told_stands : TSt := sSeq (sDrop (eMt [(0, 14)] (eV 0) (lCons (eV 1) lNil))) (sSeq (sDrop (eMt [(0, 14)] (eV 0) (lCons (eV 2) lNil))) (sSeq (sAsg (eIx (eV 3) (eC (.int 1))) (gN 4)) (sSeq (sIf (tBl (eCmp .Eq (eIx (eV 3) (eC (.int 0))) (eC (.str "alike")))) (sSeq (sRet (eAnd (eFn 70 (lCons (eV 0) (lCons (eV 1) (lCons (eV 4) lNil)))) (eFn 70 (lCons (eV 0) (lCons (eV 2) (lCons (eV 4) lNil)))))) sNext) sNext) (sSeq (sIf (tOr (tNot (tVal (eFn 71 (lCons (eV 0) (lCons (eV 1) (lCons (eV 4) lNil)))))) (tNot (tVal (eFn 71 (lCons (eV 0) (lCons (eV 2) (lCons (eV 4) lNil))))))) (sSeq (sRet (eC (.bl false))) sNext) sNext) (sSeq (sAsg (eFn 72 (lCons (eV 0) (lCons (eV 4) lNil))) (gN 5)) (sSeq (sAsg (eFn 89 (lCons (eV 0) (lCons (eV 1) (lCons (eV 5) lNil)))) (gN 6)) (sSeq (sAsg (eFn 89 (lCons (eV 0) (lCons (eV 2) (lCons (eV 5) lNil)))) (gN 7)) (sSeq (sRet (eAnd (eCmp .NotEq (eV 6) (eV 7)) (eAnd (eCmp .Eq (eIx (eV 3) (eC (.int 2))) (eV 6)) (eCmp .Eq (eIx (eV 3) (eC (.int 3))) (eV 7))))) sNext))))))))
def d_told_stands : FDef := ⟨4, 8, b_told_stands⟩
end SW
end

section
set_option Elab.async false
set_option linter.all false
set_option maxRecDepth 100000
set_option maxHeartbeats 4000000
namespace SW
open PySem L2
abbrev F_law_mixed : Nat := 200
/-- slots: cell 0, k 1, one 2 -/
def b_law_mixed : TSt := sSeq (sAsg (eBin .Mod (eBin .Mult (eBin .Add (eBin .Add (eBin .Mod (eV 0) (eC (.int 1000000007))) (eBin .Mult (eC (.int 7919)) (eV 1))) (eC (.int 101))) (eC (.int 48271))) (eC (.int 2147483647))) (gN 2)) (sSeq (sRet (eBin .Mod (eBin .Mult (eBin .Mod (eBin .Mult (eV 2) (eV 2)) (eC (.int 2147483629))) (eC (.int 69621))) (eC (.int 2147483647)))) sNext)
def d_law_mixed : FDef := ⟨2, 3, b_law_mixed⟩
abbrev F_law_stream : Nat := 201
/-- slots: script 0, k 1, cell 2, j 3, found 4, one 5 -/
def b_law_stream : TSt := sSeq (sAsg (eC (.int 0)) (gN 2)) (sSeq (sFor (iRng3 (eV 1) (eBi .len (lCons (eV 0) lNil)) (eC (.int 12))) (gN 3) (sSeq (sAsg (eBin .Add (eBin .Mult (eV 2) (eBin .Mult (eBin .Pow (eC (.int 10)) (eC (.int 60))) (eBin .Pow (eC (.int 10)) (eC (.int 60))))) (eBin .Mod (eIx (eV 0) (eV 3)) (eBin .Mult (eBin .Pow (eC (.int 10)) (eC (.int 60))) (eBin .Pow (eC (.int 10)) (eC (.int 60)))))) (gN 2)) sNext)) (sSeq (sIf (tBl (eCmp .GtE (eV 2) (eBin .Pow (eC (.int 10)) (eC (.int 18))))) (sSeq (sRet (eLst (lCons (eV 2) lNil))) sNext) sNext) (sSeq (sAsg (eBin .Add (eV 2) (eBi .sum (lCons (eLc (iVal (eV 0)) (gN 5) tYes (eBin .Mod (eV 5) (eBin .Pow (eC (.int 10)) (eC (.int 18)))) [5]) lNil))) (gN 2)) (sSeq (sAsg (eC (.int 0)) (gN 4)) (sSeq (sFor (iRng1 (eC (.int 24))) (gN 3) (sSeq (sAsg (eBin .Add (eBin .Mult (eV 4) (eC (.int 2147483647))) (eFn 200 (lCons (eBin .Add (eBin .Add (eV 2) (eBin .Mult (eC (.int 1009)) (eV 1))) (eBi .len (lCons (eV 0) lNil))) (lCons (eV 3) lNil)))) (gN 4)) sNext)) (sSeq (sRet (eLst (lCons (eV 4) lNil))) sNext))))))
def d_law_stream : FDef := ⟨2, 6, b_law_stream⟩
abbrev F_law_take : Nat := 202
/-- slots: stream 0, many 1, digit 2 -/
def b_law_take : TSt := sSeq (sAsg (eBin .Mod (eIx (eV 0) (eC (.int 0))) (eV 1)) (gN 2)) (sSeq (sSetIx (eV 0) (eC (.int 0)) (eBin .FloorDiv (eIx (eV 0) (eC (.int 0))) (eV 1))) (sSeq (sRet (eV 2)) sNext))
def d_law_take : FDef := ⟨2, 3, b_law_take⟩
abbrev F_law_own : Nat := 203
/-- slots: cell 0, k 1, found 2, j 3 -/
def b_law_own : TSt := sSeq (sAsg (eBin .Mod (eV 0) (eBin .Mult (eBin .Pow (eC (.int 10)) (eC (.int 60))) (eBin .Pow (eC (.int 10)) (eC (.int 60))))) (gN 0)) (sSeq (sIf (tBl (eCmp .GtE (eV 0) (eBin .Pow (eC (.int 10)) (eC (.int 18))))) (sSeq (sRet (eLst (lCons (eV 0) lNil))) sNext) sNext) (sSeq (sAsg (eC (.int 0)) (gN 2)) (sSeq (sFor (iRng1 (eC (.int 12))) (gN 3) (sSeq (sAsg (eBin .Add (eBin .Mult (eV 2) (eC (.int 2147483647))) (eFn 200 (lCons (eBin .Add (eV 0) (eBin .Mult (eC (.int 1009)) (eV 1))) (lCons (eV 3) lNil)))) (gN 2)) sNext)) (sSeq (sRet (eLst (lCons (eV 2) lNil))) sNext))))
def d_law_own : FDef := ⟨2, 4, b_law_own⟩
abbrev F_law_signs : Nat := 204
/-- slots: kind 0, many 1 -/
def b_law_signs : TSt := sSeq (sAsg (eC (.str (("abcdefghijklmnopqrstuvwxyzABCDEFGHIJKLMNOPQRSTUVWXYZ0123456789 !#$&'()*+,-./:;<=>?@" : Str) ++ ("[]^_{|}~" : Str)))) (gN 1)) (sSeq (sRet (eIx (eLst (lCons (eC (.str "ab")) (lCons (eBin .Add (eC (.str "ab")) (eC (.str "\n"))) (lCons (eBin .Add (eBin .Add (eBin .Add (eBin .Add (eV 1) (eC (.str "\n"))) (eC (.str "\\"))) (eC (.str "\""))) (eC (.str "`"))) (lCons (eC (.str "a")) lNil))))) (eV 0))) sNext)
def d_law_signs : FDef := ⟨1, 2, b_law_signs⟩
abbrev F_law_plain : Nat := 205
/-- slots: stream 0, most 1, signs 2, found 3, k 4 -/
def b_law_plain : TSt := sSeq (sAsg (eFn 204 (lCons (eFn 202 (lCons (eV 0) (lCons (eC (.int 4)) lNil))) lNil)) (gN 2)) (sSeq (sAsg (eC (.str "")) (gN 3)) (sSeq (sFor (iRng1 (eFn 202 (lCons (eV 0) (lCons (eBin .Add (eV 1) (eC (.int 1))) lNil)))) (gN 4) (sSeq (sAsg (eBin .Add (eV 3) (eIx (eV 2) (eFn 202 (lCons (eV 0) (lCons (eBi .len (lCons (eV 2) lNil)) lNil))))) (gN 3)) sNext)) (sSeq (sRet (eV 3)) sNext)))
def d_law_plain : FDef := ⟨2, 5, b_law_plain⟩
abbrev F_law_deed : Nat := 206
/-- slots: shelf 0, text 1, plain 2, stream 3, kind 4, more 5, other 6, at 7, end 8 -/
def b_law_deed : TSt := sSeq (sAsg (eFn 202 (lCons (eV 3) (lCons (eC (.int 4)) lNil))) (gN 4)) (sSeq (sAsg (eFn 205 (lCons (eV 3) (lCons (eIx (eLst (lCons (eC (.int 3)) (lCons (eC (.int 9)) (lCons (eC (.int 30)) lNil)))) (eFn 202 (lCons (eV 3) (lCons (eC (.int 3)) lNil)))) lNil))) (gN 5)) (sSeq (sAsg (eFn 51 (lCons (eV 0) (lCons (eV 5) lNil))) (gN 6)) (sSeq (sAsg (eFn 202 (lCons (eV 3) (lCons (eBin .Add (eBi .len (lCons (eV 2) lNil)) (eC (.int 1))) lNil))) (gN 7)) (sSeq (sAsg (eBin .Add (eV 7) (eFn 202 (lCons (eV 3) (lCons (eBin .Add (eBin .Sub (eBi .len (lCons (eV 2) lNil)) (eV 7)) (eC (.int 1))) lNil)))) (gN 8)) (sSeq (sIf (tOr (tBl (eCmp .Eq (eV 4) (eC (.int 3)))) (tBl (eCmp .Gt (eBin .Add (eBi .len (lCons (eV 2) lNil)) (eBi .len (lCons (eV 5) lNil))) (eC (.int 800))))) (sSeq (sRet (eTup (lCons (eFn 58 (lCons (eV 0) (lCons (eV 1) (lCons (eV 7) (lCons (eV 8) lNil))))) (lCons (eBin .Add (eSl (eV 2) oNone (oSome (eV 7))) (eSl (eV 2) (oSome (eV 8)) oNone)) lNil)))) sNext) sNext) (sSeq (sIf (tBl (eCmp .Eq (eV 4) (eC (.int 0)))) (sSeq (sRet (eTup (lCons (eFn 49 (lCons (eV 0) (lCons (eV 1) (lCons (eV 6) lNil)))) (lCons (eBin .Add (eV 2) (eV 5)) lNil)))) sNext) sNext) (sSeq (sIf (tBl (eCmp .Eq (eV 4) (eC (.int 1)))) (sSeq (sRet (eTup (lCons (eFn 49 (lCons (eV 0) (lCons (eV 6) (lCons (eV 1) lNil)))) (lCons (eBin .Add (eV 5) (eV 2)) lNil)))) sNext) sNext) (sSeq (sRet (eTup (lCons (eFn 57 (lCons (eV 0) (lCons (eV 1) (lCons (eV 7) (lCons (eV 6) lNil))))) (lCons (eBin .Add (eBin .Add (eSl (eV 2) oNone (oSome (eV 7))) (eV 5)) (eSl (eV 2) (oSome (eV 7)) oNone)) lNil)))) sNext))))))))
def d_law_deed : FDef := ⟨4, 9, b_law_deed⟩
abbrev F_law_places : Nat := 207
/-- slots: shelf 0, text 1, plain 2, stream 3, at 4, end 5, row 6, begin 7, rows 8, way 9 -/
def b_law_places : TSt := sSeq (sAsg (eFn 202 (lCons (eV 3) (lCons (eBin .Add (eBi .len (lCons (eV 2) lNil)) (eC (.int 1))) lNil))) (gN 4)) (sSeq (sAsg (eBin .Add (eV 4) (eFn 202 (lCons (eV 3) (lCons (eBin .Add (eBin .Sub (eBi .len (lCons (eV 2) lNil)) (eV 4)) (eC (.int 1))) lNil)))) (gN 5)) (sSeq (sIf (tOr (tBl (eCmp .NotEq (eFn 31 (lCons (eV 0) (lCons (eV 1) lNil))) (eV 2))) (tBl (eCmp .NotEq (eFn 30 (lCons (eV 0) (lCons (eV 1) (lCons (eV 4) (lCons (eV 5) lNil))))) (eSl (eV 2) (oSome (eV 4)) (oSome (eV 5)))))) (sSeq (sRet (eC (.bl false))) sNext) sNext) (sSeq (sAsg (eBm .count (eSl (eV 2) oNone (oSome (eV 4))) (lCons (eC (.str "\n")) lNil)) (gN 6)) (sSeq (sAsg (eBin .Add (eBm .rfind (eSl (eV 2) oNone (oSome (eV 4))) (lCons (eC (.str "\n")) lNil)) (eC (.int 1))) (gN 7)) (sSeq (sIf (tOr (tBl (eCmp .NotEq (eFn 37 (lCons (eV 0) (lCons (eV 1) (lCons (eV 4) lNil)))) (eTup (lCons (eV 6) (lCons (eBin .Sub (eV 4) (eV 7)) lNil))))) (tBl (eCmp .NotEq (eFn 35 (lCons (eV 0) (lCons (eV 1) (lCons (eV 6) lNil)))) (eV 7)))) (sSeq (sRet (eC (.bl false))) sNext) sNext) (sSeq (sAsg (eBm .split (eV 2) (lCons (eC (.str "\n")) lNil)) (gN 8)) (sSeq (sIf (tOr (tBl (eCmp .NotEq (eFn 32 (lCons (eV 0) (lCons (eV 1) lNil))) (eBi .len (lCons (eV 8) lNil)))) (tBl (eCmp .NotEq (eFn 38 (lCons (eV 0) (lCons (eV 1) (lCons (eV 6) lNil)))) (eIx (eV 8) (eV 6))))) (sSeq (sRet (eC (.bl false))) sNext) sNext) (sSeq (sIf (tBl (eCmp .Eq (eV 4) (eBi .len (lCons (eV 2) lNil)))) (sSeq (sRet (eC (.bl true))) sNext) sNext) (sSeq (sAsg (eFn 26 (lCons (eV 0) (lCons (eV 1) (lCons (eV 4) lNil)))) (gN 9)) (sSeq (sIf (tOr (tBl (eCmp .Gt (eBi .len (lCons (eV 9) lNil)) (eBin .Add (eMt [(0, 17)] (eV 0) (lCons (eV 1) lNil)) (eC (.int 1))))) (tBl (eCmp .NotEq (eFn 28 (lCons (eV 0) (lCons (eV 1) (lCons (eV 4) lNil)))) (eIx (eV 2) (eV 4))))) (sSeq (sRet (eC (.bl false))) sNext) sNext) (sSeq (sRet (eCmp .Is (eFn 27 (lCons (eV 0) (lCons (eV 1) (lCons (eV 4) (lCons (eV 9) (lCons (eIx (eV 2) (eV 4)) lNil)))))) (eC (.bl true)))) sNext)))))))))))
def d_law_places : FDef := ⟨4, 10, b_law_places⟩
abbrev F_law_words : Nat := 208
/-- slots: shelf 0, text 1, plain 2, stream 3, word 4, at 5, due 6, ends 7, place 8 -/
def b_law_words : TSt := sSeq (sAsg (eBin .Add (eFn 205 (lCons (eV 3) (lCons (eC (.int 7)) lNil))) (eC (.str "a"))) (gN 4)) (sSeq (sAsg (eFn 202 (lCons (eV 3) (lCons (eBin .Add (eBi .len (lCons (eV 2) lNil)) (eC (.int 1))) lNil))) (gN 5)) (sSeq (sIf (tAnd (tBl (eCmp .Lt (eV 5) (eBi .len (lCons (eV 2) lNil)))) (tBl (eCmp .Gt (eFn 202 (lCons (eV 3) (lCons (eC (.int 4)) lNil))) (eC (.int 0))))) (sSeq (sAsg (eSl (eV 2) (oSome (eV 5)) (oSome (eBin .Add (eBin .Add (eV 5) (eC (.int 1))) (eFn 202 (lCons (eV 3) (lCons (eC (.int 8)) lNil)))))) (gN 4)) sNext) sNext) (sSeq (sAsg (eLc (iRng1 (eBi .len (lCons (eV 2) lNil))) (gN 8) (tBl (eCmp .Eq (eSl (eV 2) (oSome (eV 8)) (oSome (eBin .Add (eV 8) (eBi .len (lCons (eV 4) lNil))))) (eV 4))) (eV 8) [8]) (gN 6)) (sSeq (sIf (tBl (eCmp .NotEq (eFn 98 (lCons (eV 0) (lCons (eV 1) (lCons (eV 4) lNil)))) (eBi .len (lCons (eV 6) lNil)))) (sSeq (sRet (eC (.bl false))) sNext) sNext) (sSeq (sIf (tBl (eCmp .Eq (eV 6) (eLst lNil))) (sSeq (sRet (eC (.bl true))) sNext) sNext) (sSeq (sAsg (eLst (lCons (eFn 99 (lCons (eV 0) (lCons (eV 1) (lCons (eV 4) (lCons (eC (.int 0)) lNil))))) (lCons (eFn 99 (lCons (eV 0) (lCons (eV 1) (lCons (eV 4) (lCons (eBin .Sub (eBi .len (lCons (eV 6) lNil)) (eC (.int 1))) lNil))))) lNil))) (gN 7)) (sSeq (sRet (eCmp .Eq (eV 7) (eLst (lCons (eIx (eV 6) (eC (.int 0))) (lCons (eIx (eV 6) (eNeg (eC (.int 1)))) lNil))))) sNext)))))))
def d_law_words : FDef := ⟨4, 9, b_law_words⟩
abbrev F_law_held : Nat := 209
/-- slots: shelf 0, one 1, first 2, other 3, last 4, told 5 -/
def b_law_held : TSt := sSeq (sAsg (eFn 88 (lCons (eV 0) (lCons (eV 1) (lCons (eV 3) lNil)))) (gN 5)) (sSeq (sIf (tOr (tNot (tVal (eBi .istuple (lCons (eV 5) lNil)))) (tBl (eCmp .IsNot (eFn 90 (lCons (eV 0) (lCons (eV 1) (lCons (eV 3) (lCons (eV 5) lNil))))) (eC (.bl true))))) (sSeq (sRet (eC (.bl false))) sNext) sNext) (sSeq (sRet (eCmp .Eq (eIx (eV 5) (eC (.int 0))) (eIx (eLst (lCons (eC (.str "apart")) (lCons (eC (.str "alike")) lNil))) (eBi .int (lCons (eCmp .Eq (eV 2) (eV 4)) lNil))))) sNext))
def d_law_held : FDef := ⟨5, 6, b_law_held⟩
abbrev F_law : Nat := 210
/-- slots: script 0, shelf 1, text 2, plain 3, k 4, cell 5, stream 6, ahead 7, elder 8, many 9 -/
def b_law : TSt := sSeq (sAsg (eMk 0 9 lNil) (gN 1)) (sSeq (sAsg (eC (.int 0)) (gN 2)) (sSeq (sAsg (eC (.str "")) (gN 3)) (sSeq (sFor (iEnm (eBin .Add (eV 0) (eLst (lCons (eC (.int 0)) (lCons (eC (.int 1)) (lCons (eC (.int 2)) lNil)))))) (gTp [4, 5]) (sSeq (sAsg (eFn 203 (lCons (eV 5) (lCons (eV 4) lNil))) (gN 6)) (sSeq (sAsg (eV 2) (gN 7)) (sSeq (sAsg (eV 3) (gN 8)) (sSeq (sAsg (eFn 206 (lCons (eV 1) (lCons (eV 2) (lCons (eV 3) (lCons (eV 6) lNil))))) (gTp [2, 3])) (sSeq (sAsg (eMt [(0, 12)] (eV 1) lNil) (gN 9)) (sSeq (sIf (tOr (tNot (tVal (eFn 207 (lCons (eV 1) (lCons (eV 2) (lCons (eV 3) (lCons (eV 6) lNil))))))) (tNot (tVal (eFn 208 (lCons (eV 1) (lCons (eV 2) (lCons (eV 3) (lCons (eV 6) lNil)))))))) (sSeq (sRet (eC (.bl false))) sNext) sNext) (sSeq (sIf (tOr (tNot (tVal (eFn 209 (lCons (eV 1) (lCons (eV 2) (lCons (eV 3) (lCons (eV 7) (lCons (eV 8) lNil)))))))) (tBl (eCmp .NotEq (eMt [(0, 12)] (eV 1) lNil) (eV 9)))) (sSeq (sRet (eC (.bl false))) sNext) sNext) (sSeq (sIf (tBl (eCmp .NotEq (eFn 31 (lCons (eV 1) (lCons (eV 7) lNil))) (eV 8))) (sSeq (sRet (eC (.bl false))) sNext) sNext) sNext))))))))) (sSeq (sRet (eC (.bl true))) sNext))))
def d_law : FDef := ⟨1, 10, b_law⟩
end SW
end

section
set_option Elab.async false
set_option linter.all false
set_option maxRecDepth 100000
set_option maxHeartbeats 4000000
namespace SW
open PySem L2
theorem all_cons {α : Type} {p : α → Prop} {a : α} {l : List α} (h : p a) (t : ∀ x ∈ l, p x) : ∀ x ∈ a :: l, p x := fun x hx => by
  rcases List.mem_cons.mp hx with rfl | hx
  · exact h
  · exact t x hx
theorem all_nil {α : Type} {p : α → Prop} : ∀ x ∈ ([] : List α), p x := fun x hx => (nomatch hx)
theorem all_app {α : Type} {p : α → Prop} {l m : List α} (h : ∀ x ∈ l, p x) (t : ∀ x ∈ m, p x) : ∀ x ∈ l ++ m, p x := fun x hx => (List.mem_append.mp hx).elim (h x) (t x)
def topS (i : Nat) : Stmt := PySem.Challenge.pw_skeinwood_k97_whole_one_text_told_in_all.main.body.getD i (.Pass ⟨0, 0, 0, 0⟩)
def e_lies_in : Ent := ⟨F_lies_in, ("lies_in", none), "lies_in", "lies_in", topS 9, ["shelf", "number", "place"], ["shelf", "number", "place", "word", "one", "other", "ahead"], d_lies_in⟩
def e_way_and_place : Ent := ⟨F_way_and_place, ("way_and_place", none), "way_and_place", "way_and_place", topS 10, ["shelf", "text", "place"], ["shelf", "text", "place", "signs", "way", "part"], d_way_and_place⟩
def e_way_to : Ent := ⟨F_way_to, ("way_to", none), "way_to", "way_to", topS 11, ["shelf", "text", "place"], ["shelf", "text", "place"], d_way_to⟩
def e_way_stands : Ent := ⟨F_way_stands, ("way_stands", none), "way_stands", "way_stands", topS 12, ["shelf", "text", "place", "way", "sign"], ["shelf", "text", "place", "way", "sign", "signs", "here", "number", "part"], d_way_stands⟩
def e_sign_at : Ent := ⟨F_sign_at, ("sign_at", none), "sign_at", "sign_at", topS 15, ["shelf", "text", "place"], ["shelf", "text", "place", "way", "within"], d_sign_at⟩
def e_gathered : Ent := ⟨F_gathered, ("gathered", none), "gathered", "gathered", topS 16, ["shelf", "text", "begin", "end"], ["shelf", "text", "begin", "end", "word", "one", "other", "ahead"], d_gathered⟩
def e_stretch_of : Ent := ⟨F_stretch_of, ("stretch_of", none), "stretch_of", "stretch_of", topS 17, ["shelf", "text", "begin", "end"], ["shelf", "text", "begin", "end", "signs"], d_stretch_of⟩
def e_whole_text : Ent := ⟨F_whole_text, ("whole_text", none), "whole_text", "whole_text", topS 18, ["shelf", "text"], ["shelf", "text"], d_whole_text⟩
def e_is_whole : Ent := ⟨F_is_whole, ("is_whole", none), "is_whole", "is_whole", topS 20, ["thing"], ["thing"], d_is_whole⟩
def e_is_plain : Ent := ⟨F_is_plain, ("is_plain", none), "is_plain", "is_plain", topS 21, ["thing"], ["thing", "sign"], d_is_plain⟩
def e_ends_in : Ent := ⟨F_ends_in, ("ends_in", none), "ends_in", "ends_in", topS 22, ["plain"], ["plain"], d_ends_in⟩
def e_Shelf___init__ : Ent := ⟨F_Shelf___init__, ("Shelf", some "__init__"), "__init__", "Shelf.__init__", inClass (topS 26) 0, ["self"], ["self"], d_Shelf___init__⟩
def e_Shelf_want : Ent := ⟨F_Shelf_want, ("Shelf", some "want"), "want", "Shelf.want", inClass (topS 26) 1, ["self", "text"], ["self", "text"], d_Shelf_want⟩
def e_Shelf_want_piece : Ent := ⟨F_Shelf_want_piece, ("Shelf", some "want_piece"), "want_piece", "Shelf.want_piece", inClass (topS 26) 2, ["self", "number"], ["self", "number"], d_Shelf_want_piece⟩
def e_Shelf_many : Ent := ⟨F_Shelf_many, ("Shelf", some "many"), "many", "Shelf.many", inClass (topS 26) 3, ["self"], ["self"], d_Shelf_many⟩
def e_Shelf_piece : Ent := ⟨F_Shelf_piece, ("Shelf", some "piece"), "piece", "Shelf.piece", inClass (topS 26) 4, ["self", "number"], ["self", "number"], d_Shelf_piece⟩
def e_Shelf_signs : Ent := ⟨F_Shelf_signs, ("Shelf", some "signs"), "signs", "Shelf.signs", inClass (topS 26) 5, ["self", "text"], ["self", "text"], d_Shelf_signs⟩
def e_Shelf_ends : Ent := ⟨F_Shelf_ends, ("Shelf", some "ends"), "ends", "Shelf.ends", inClass (topS 26) 6, ["self", "text"], ["self", "text"], d_Shelf_ends⟩
def e_Shelf_leaves : Ent := ⟨F_Shelf_leaves, ("Shelf", some "leaves"), "leaves", "Shelf.leaves", inClass (topS 26) 7, ["self", "text"], ["self", "text"], d_Shelf_leaves⟩
def e_Shelf_height : Ent := ⟨F_Shelf_height, ("Shelf", some "height"), "height", "Shelf.height", inClass (topS 26) 8, ["self", "text"], ["self", "text"], d_Shelf_height⟩
def e_Shelf_first_leaf : Ent := ⟨F_Shelf_first_leaf, ("Shelf", some "first_leaf"), "first_leaf", "Shelf.first_leaf", inClass (topS 26) 9, ["self", "text"], ["self", "text"], d_Shelf_first_leaf⟩
def e_Shelf_last_leaf : Ent := ⟨F_Shelf_last_leaf, ("Shelf", some "last_leaf"), "last_leaf", "Shelf.last_leaf", inClass (topS 26) 10, ["self", "text"], ["self", "text"], d_Shelf_last_leaf⟩
def e_Shelf_laid : Ent := ⟨F_Shelf_laid, ("Shelf", some "laid"), "laid", "Shelf.laid", inClass (topS 26) 11, ["self", "piece", "signs", "ends", "leaves", "height"], ["self", "piece", "signs", "ends", "leaves", "height", "number"], d_Shelf_laid⟩
def e_Shelf_leaf : Ent := ⟨F_Shelf_leaf, ("Shelf", some "leaf"), "leaf", "Shelf.leaf", inClass (topS 26) 12, ["self", "plain"], ["self", "plain", "piece", "number"], d_Shelf_leaf⟩
def e_Shelf_fork : Ent := ⟨F_Shelf_fork, ("Shelf", some "fork"), "fork", "Shelf.fork", inClass (topS 26) 13, ["self", "one", "other"], ["self", "one", "other", "heights", "signs", "piece", "ends", "leaves", "number"], d_Shelf_fork⟩
def e_Shelf_is_loose : Ent := ⟨F_Shelf_is_loose, ("Shelf", some "is_loose"), "is_loose", "Shelf.is_loose", inClass (topS 26) 14, ["self", "one", "other"], ["self", "one", "other"], d_Shelf_is_loose⟩
def e_is_leaf : Ent := ⟨F_is_leaf, ("is_leaf", none), "is_leaf", "is_leaf", topS 29, ["shelf", "text"], ["shelf", "text"], d_is_leaf⟩
def e_parts_of : Ent := ⟨F_parts_of, ("parts_of", none), "parts_of", "parts_of", topS 30, ["shelf", "text"], ["shelf", "text", "word", "one", "other"], d_parts_of⟩
def e_turned_right : Ent := ⟨F_turned_right, ("turned_right", none), "turned_right", "turned_right", topS 31, ["shelf", "one", "other"], ["shelf", "one", "other", "inner", "outer", "left", "right"], d_turned_right⟩
def e_turned_left : Ent := ⟨F_turned_left, ("turned_left", none), "turned_left", "turned_left", topS 32, ["shelf", "one", "other"], ["shelf", "one", "other", "outer", "inner", "left", "right"], d_turned_left⟩
def e_levelled : Ent := ⟨F_levelled, ("levelled", none), "levelled", "levelled", topS 33, ["shelf", "one", "other"], ["shelf", "one", "other"], d_levelled⟩
def e_linked : Ent := ⟨F_linked, ("linked", none), "linked", "linked", topS 34, ["shelf", "one", "other"], ["shelf", "one", "other", "first", "last"], d_linked⟩
def e_without_last : Ent := ⟨F_without_last, ("without_last", none), "without_last", "without_last", topS 35, ["shelf", "text"], ["shelf", "text", "one", "other"], d_without_last⟩
def e_without_first : Ent := ⟨F_without_first, ("without_first", none), "without_first", "without_first", topS 36, ["shelf", "text"], ["shelf", "text", "one", "other"], d_without_first⟩
def e_leaf_text : Ent := ⟨F_leaf_text, ("leaf_text", none), "leaf_text", "leaf_text", topS 37, ["shelf", "number"], ["shelf", "number"], d_leaf_text⟩
def e_poured : Ent := ⟨F_poured, ("poured", none), "poured", "poured", topS 38, ["shelf", "one", "other"], ["shelf", "one", "other", "last", "first", "amid"], d_poured⟩
def e_joined : Ent := ⟨F_joined, ("joined", none), "joined", "joined", topS 39, ["shelf", "one", "other"], ["shelf", "one", "other"], d_joined⟩
def e_built_of : Ent := ⟨F_built_of, ("built_of", none), "built_of", "built_of", topS 40, ["shelf", "leaves"], ["shelf", "leaves", "half"], d_built_of⟩
def e_built : Ent := ⟨F_built, ("built", none), "built", "built", topS 41, ["shelf", "plain"], ["shelf", "plain", "leaves", "start"], d_built⟩
def e_Front___init__ : Ent := ⟨F_Front___init__, ("Front", some "__init__"), "__init__", "Front.__init__", inClass (topS 43) 0, ["self", "shelf", "text"], ["self", "shelf", "text"], d_Front___init__⟩
def e_Front_is_over : Ent := ⟨F_Front_is_over, ("Front", some "is_over"), "is_over", "Front.is_over", inClass (topS 43) 1, ["self"], ["self"], d_Front_is_over⟩
def e_Front_next_text : Ent := ⟨F_Front_next_text, ("Front", some "next_text"), "next_text", "Front.next_text", inClass (topS 43) 2, ["self"], ["self"], d_Front_next_text⟩
def e_Front_opened : Ent := ⟨F_Front_opened, ("Front", some "opened"), "opened", "Front.opened", inClass (topS 43) 3, ["self"], ["self", "text", "one", "other"], d_Front_opened⟩
def e_Front_next_signs : Ent := ⟨F_Front_next_signs, ("Front", some "next_signs"), "next_signs", "Front.next_signs", inClass (topS 43) 4, ["self"], ["self"], d_Front_next_signs⟩
def e_Front_go_on : Ent := ⟨F_Front_go_on, ("Front", some "go_on"), "go_on", "Front.go_on", inClass (topS 43) 5, ["self", "many"], ["self", "many"], d_Front_go_on⟩
def e_Front_by_piece : Ent := ⟨F_Front_by_piece, ("Front", some "by_piece"), "by_piece", "Front.by_piece", inClass (topS 43) 6, ["self", "number"], ["self", "number", "signs"], d_Front_by_piece⟩
def e_Front_by_signs : Ent := ⟨F_Front_by_signs, ("Front", some "by_signs"), "by_signs", "Front.by_signs", inClass (topS 43) 7, ["self", "plain"], ["self", "plain", "sign"], d_Front_by_signs⟩
def e_is_plain_item : Ent := ⟨F_is_plain_item, ("is_plain_item", none), "is_plain_item", "is_plain_item", topS 44, ["item"], ["item"], d_is_plain_item⟩
def e_spell_on : Ent := ⟨F_spell_on, ("spell_on", none), "spell_on", "spell_on", topS 45, ["front", "items"], ["front", "items", "item"], d_spell_on⟩
def e_spells : Ent := ⟨F_spells, ("spells", none), "spells", "spells", topS 46, ["shelf", "text", "items"], ["shelf", "text", "items", "front"], d_spells⟩
def e_begins_text : Ent := ⟨F_begins_text, ("begins_text", none), "begins_text", "begins_text", topS 47, ["shelf", "text", "items"], ["shelf", "text", "items"], d_begins_text⟩
def e_items_signs : Ent := ⟨F_items_signs, ("items_signs", none), "items_signs", "items_signs", topS 48, ["shelf", "items"], ["shelf", "items", "total", "item"], d_items_signs⟩
def e_Reader___init__ : Ent := ⟨F_Reader___init__, ("Reader", some "__init__"), "__init__", "Reader.__init__", inClass (topS 52) 0, ["self", "shelf", "text"], ["self", "shelf", "text"], d_Reader___init__⟩
def e_Reader_is_over : Ent := ⟨F_Reader_is_over, ("Reader", some "is_over"), "is_over", "Reader.is_over", inClass (topS 52) 1, ["self"], ["self"], d_Reader_is_over⟩
def e_Reader_next_piece : Ent := ⟨F_Reader_next_piece, ("Reader", some "next_piece"), "next_piece", "Reader.next_piece", inClass (topS 52) 2, ["self"], ["self"], d_Reader_next_piece⟩
def e_Reader_passed : Ent := ⟨F_Reader_passed, ("Reader", some "passed"), "passed", "Reader.passed", inClass (topS 52) 3, ["self"], ["self"], d_Reader_passed⟩
def e_Reader_opened : Ent := ⟨F_Reader_opened, ("Reader", some "opened"), "opened", "Reader.opened", inClass (topS 52) 4, ["self"], ["self", "piece"], d_Reader_opened⟩
def e_Reader_next_sign : Ent := ⟨F_Reader_next_sign, ("Reader", some "next_sign"), "next_sign", "Reader.next_sign", inClass (topS 52) 5, ["self"], ["self"], d_Reader_next_sign⟩
def e_Reader_gone : Ent := ⟨F_Reader_gone, ("Reader", some "gone"), "gone", "Reader.gone", inClass (topS 52) 6, ["self", "many"], ["self", "many"], d_Reader_gone⟩
def e_in_common : Ent := ⟨F_in_common, ("in_common", none), "in_common", "in_common", topS 53, ["one", "other"], ["one", "other", "many"], d_in_common⟩
def e_opened_one : Ent := ⟨F_opened_one, ("opened_one", none), "opened_one", "opened_one", topS 54, ["shelf", "one", "other"], ["shelf", "one", "other", "here", "there"], d_opened_one⟩
def e_with_signs : Ent := ⟨F_with_signs, ("with_signs", none), "with_signs", "with_signs", topS 55, ["items", "plain"], ["items", "plain", "found"], d_with_signs⟩
def e_held_together : Ent := ⟨F_held_together, ("held_together", none), "held_together", "held_together", topS 56, ["shelf", "one", "other"], ["shelf", "one", "other", "signs", "here", "there", "items", "many"], d_held_together⟩
def e_sign_behind : Ent := ⟨F_sign_behind, ("sign_behind", none), "sign_behind", "sign_behind", topS 57, ["shelf", "text", "place"], ["shelf", "text", "place"], d_sign_behind⟩
def e_told_stands : Ent := ⟨F_told_stands, ("told_stands", none), "told_stands", "told_stands", topS 58, ["shelf", "one", "other", "told"], ["shelf", "one", "other", "told", "items", "place", "here", "there"], d_told_stands⟩
def e_want_stretch : Ent := ⟨F_want_stretch, ("want_stretch", none), "want_stretch", "want_stretch", topS 60, ["shelf", "text", "begin", "end"], ["shelf", "text", "begin", "end", "signs"], d_want_stretch⟩
def e_leaf_cut : Ent := ⟨F_leaf_cut, ("leaf_cut", none), "leaf_cut", "leaf_cut", topS 61, ["shelf", "leaf", "at"], ["shelf", "leaf", "at", "plain", "parts", "part"], d_leaf_cut⟩
def e_halves : Ent := ⟨F_halves, ("halves", none), "halves", "halves", topS 62, ["shelf", "text", "at"], ["shelf", "text", "at", "one", "other", "ahead", "left", "right"], d_halves⟩
def e_put_in : Ent := ⟨F_put_in, ("put_in", none), "put_in", "put_in", topS 63, ["shelf", "text", "at", "other"], ["shelf", "text", "at", "other", "signs", "left", "right"], d_put_in⟩
def e_taken_out : Ent := ⟨F_taken_out, ("taken_out", none), "taken_out", "taken_out", topS 64, ["shelf", "text", "begin", "end"], ["shelf", "text", "begin", "end", "left"], d_taken_out⟩
def e_look_at_word : Ent := ⟨F_look_at_word, ("look_at_word", none), "look_at_word", "look_at_word", topS 67, ["word"], ["word"], d_look_at_word⟩
def e_places_in : Ent := ⟨F_places_in, ("places_in", none), "places_in", "places_in", topS 68, ["plain", "word"], ["plain", "word", "place"], d_places_in⟩
def e_Finder___init__ : Ent := ⟨F_Finder___init__, ("Finder", some "__init__"), "__init__", "Finder.__init__", inClass (topS 69) 0, ["self", "shelf", "word"], ["self", "shelf", "word"], d_Finder___init__⟩
def e_Finder_ends_of : Ent := ⟨F_Finder_ends_of, ("Finder", some "ends_of"), "ends_of", "Finder.ends_of", inClass (topS 69) 1, ["self", "text"], ["self", "text", "reach", "piece", "head", "tail"], d_Finder_ends_of⟩
def e_Finder_seam : Ent := ⟨F_Finder_seam, ("Finder", some "seam"), "seam", "Finder.seam", inClass (topS 69) 2, ["self", "one", "other"], ["self", "one", "other", "tail", "begin"], d_Finder_seam⟩
def e_Finder_often : Ent := ⟨F_Finder_often, ("Finder", some "often"), "often", "Finder.often", inClass (topS 69) 3, ["self", "text"], ["self", "text", "piece", "across"], d_Finder_often⟩
def e_Finder_place : Ent := ⟨F_Finder_place, ("Finder", some "place"), "place", "Finder.place", inClass (topS 69) 4, ["self", "text", "k"], ["self", "text", "k", "ahead", "piece", "many", "begin", "across"], d_Finder_place⟩
def e_count_of : Ent := ⟨F_count_of, ("count_of", none), "count_of", "count_of", topS 70, ["shelf", "text", "word"], ["shelf", "text", "word"], d_count_of⟩
def e_place_of : Ent := ⟨F_place_of, ("place_of", none), "place_of", "place_of", topS 71, ["shelf", "text", "word", "k"], ["shelf", "text", "word", "k", "finder"], d_place_of⟩
def e_rows_in : Ent := ⟨F_rows_in, ("rows_in", none), "rows_in", "rows_in", topS 73, ["shelf", "text"], ["shelf", "text"], d_rows_in⟩
def e_ends_ahead : Ent := ⟨F_ends_ahead, ("ends_ahead", none), "ends_ahead", "ends_ahead", topS 74, ["shelf", "text", "place"], ["shelf", "text", "place", "many", "word", "one", "other"], d_ends_ahead⟩
def e_place_behind : Ent := ⟨F_place_behind, ("place_behind", none), "place_behind", "place_behind", topS 75, ["shelf", "text", "row"], ["shelf", "text", "row", "ahead", "left", "word", "one", "other", "plain", "places", "place", "sign"], d_place_behind⟩
def e_row_begin : Ent := ⟨F_row_begin, ("row_begin", none), "row_begin", "row_begin", topS 76, ["shelf", "text", "row"], ["shelf", "text", "row", "many"], d_row_begin⟩
def e_row_end : Ent := ⟨F_row_end, ("row_end", none), "row_end", "row_end", topS 77, ["shelf", "text", "row"], ["shelf", "text", "row"], d_row_end⟩
def e_row_at : Ent := ⟨F_row_at, ("row_at", none), "row_at", "row_at", topS 78, ["shelf", "text", "place"], ["shelf", "text", "place", "signs", "row"], d_row_at⟩
def e_row_text : Ent := ⟨F_row_text, ("row_text", none), "row_text", "row_text", topS 79, ["shelf", "text", "row"], ["shelf", "text", "row", "begin"], d_row_text⟩
def e_law_mixed : Ent := ⟨F_law_mixed, ("_law_mixed", none), "_law_mixed", "_law_mixed", topS 81, ["cell", "k"], ["cell", "k", "one"], d_law_mixed⟩
def e_law_stream : Ent := ⟨F_law_stream, ("_law_stream", none), "_law_stream", "_law_stream", topS 82, ["script", "k"], ["script", "k", "cell", "j", "found", "one"], d_law_stream⟩
def e_law_take : Ent := ⟨F_law_take, ("_law_take", none), "_law_take", "_law_take", topS 83, ["stream", "many"], ["stream", "many", "digit"], d_law_take⟩
def e_law_own : Ent := ⟨F_law_own, ("_law_own", none), "_law_own", "_law_own", topS 84, ["cell", "k"], ["cell", "k", "found", "j"], d_law_own⟩
def e_law_signs : Ent := ⟨F_law_signs, ("_law_signs", none), "_law_signs", "_law_signs", topS 85, ["kind"], ["kind", "many"], d_law_signs⟩
def e_law_plain : Ent := ⟨F_law_plain, ("_law_plain", none), "_law_plain", "_law_plain", topS 86, ["stream", "most"], ["stream", "most", "signs", "found", "k"], d_law_plain⟩
def e_law_deed : Ent := ⟨F_law_deed, ("_law_deed", none), "_law_deed", "_law_deed", topS 87, ["shelf", "text", "plain", "stream"], ["shelf", "text", "plain", "stream", "kind", "more", "other", "at", "end"], d_law_deed⟩
def e_law_places : Ent := ⟨F_law_places, ("_law_places", none), "_law_places", "_law_places", topS 88, ["shelf", "text", "plain", "stream"], ["shelf", "text", "plain", "stream", "at", "end", "row", "begin", "rows", "way"], d_law_places⟩
def e_law_words : Ent := ⟨F_law_words, ("_law_words", none), "_law_words", "_law_words", topS 89, ["shelf", "text", "plain", "stream"], ["shelf", "text", "plain", "stream", "word", "at", "due", "ends", "place"], d_law_words⟩
def e_law_held : Ent := ⟨F_law_held, ("_law_held", none), "_law_held", "_law_held", topS 90, ["shelf", "one", "first", "other", "last"], ["shelf", "one", "first", "other", "last", "told"], d_law_held⟩
def e_law : Ent := ⟨F_law, ("law", none), "law", "law", topS 91, ["script"], ["script", "shelf", "text", "plain", "k", "cell", "stream", "ahead", "elder", "many"], d_law⟩
def ents : List Ent := ([e_lies_in, e_way_and_place, e_way_to, e_way_stands, e_sign_at, e_gathered, e_stretch_of, e_whole_text, e_is_whole, e_is_plain, e_ends_in, e_Shelf___init__, e_Shelf_want, e_Shelf_want_piece, e_Shelf_many, e_Shelf_piece] : List Ent) ++ ([e_Shelf_signs, e_Shelf_ends, e_Shelf_leaves, e_Shelf_height, e_Shelf_first_leaf, e_Shelf_last_leaf, e_Shelf_laid, e_Shelf_leaf, e_Shelf_fork, e_Shelf_is_loose, e_is_leaf, e_parts_of, e_turned_right, e_turned_left, e_levelled, e_linked] : List Ent) ++ ([e_without_last, e_without_first, e_leaf_text, e_poured, e_joined, e_built_of, e_built, e_Front___init__, e_Front_is_over, e_Front_next_text, e_Front_opened, e_Front_next_signs, e_Front_go_on, e_Front_by_piece, e_Front_by_signs, e_is_plain_item] : List Ent) ++ ([e_spell_on, e_spells, e_begins_text, e_items_signs, e_Reader___init__, e_Reader_is_over, e_Reader_next_piece, e_Reader_passed, e_Reader_opened, e_Reader_next_sign, e_Reader_gone, e_in_common, e_opened_one, e_with_signs, e_held_together, e_sign_behind] : List Ent) ++ ([e_told_stands, e_want_stretch, e_leaf_cut, e_halves, e_put_in, e_taken_out, e_look_at_word, e_places_in, e_Finder___init__, e_Finder_ends_of, e_Finder_seam, e_Finder_often, e_Finder_place, e_count_of, e_place_of, e_rows_in] : List Ent) ++ ([e_ends_ahead, e_place_behind, e_row_begin, e_row_end, e_row_at, e_row_text, e_law_mixed, e_law_stream, e_law_take, e_law_own, e_law_signs, e_law_plain, e_law_deed, e_law_places, e_law_words, e_law_held] : List Ent) ++ ([e_law] : List Ent)
def tab : Tab where
  bis := ["all", "bool", "enumerate", "int", "isinstance", "len", "list", "max", "min", "range", "str", "sum", "tuple"]
  cst := [("MOST_READ", .inl 10000), ("MOST_IN_LEAF", .inl 8), ("MOST_SIGNS", .inl 1000000000000000000), ("MOST_WRITTEN", .inl 10000), ("MOST_HELD", .inl 10000), ("MOST_ITEM", .inl 8), ("MOST_IN_WORD", .inl 8)]
  fns := ([("lies_in", F_lies_in), ("way_and_place", F_way_and_place), ("way_to", F_way_to), ("way_stands", F_way_stands), ("sign_at", F_sign_at), ("gathered", F_gathered), ("stretch_of", F_stretch_of), ("whole_text", F_whole_text), ("is_whole", F_is_whole), ("is_plain", F_is_plain), ("ends_in", F_ends_in), ("is_leaf", F_is_leaf), ("parts_of", F_parts_of), ("turned_right", F_turned_right), ("turned_left", F_turned_left), ("levelled", F_levelled)] : List (Str × Nat)) ++ ([("linked", F_linked), ("without_last", F_without_last), ("without_first", F_without_first), ("leaf_text", F_leaf_text), ("poured", F_poured), ("joined", F_joined), ("built_of", F_built_of), ("built", F_built), ("is_plain_item", F_is_plain_item), ("spell_on", F_spell_on), ("spells", F_spells), ("begins_text", F_begins_text), ("items_signs", F_items_signs), ("in_common", F_in_common), ("opened_one", F_opened_one), ("with_signs", F_with_signs)] : List (Str × Nat)) ++ ([("held_together", F_held_together), ("sign_behind", F_sign_behind), ("told_stands", F_told_stands), ("want_stretch", F_want_stretch), ("leaf_cut", F_leaf_cut), ("halves", F_halves), ("put_in", F_put_in), ("taken_out", F_taken_out), ("look_at_word", F_look_at_word), ("places_in", F_places_in), ("count_of", F_count_of), ("place_of", F_place_of), ("rows_in", F_rows_in), ("ends_ahead", F_ends_ahead), ("place_behind", F_place_behind), ("row_begin", F_row_begin)] : List (Str × Nat)) ++ ([("row_end", F_row_end), ("row_at", F_row_at), ("row_text", F_row_text), ("_law_mixed", F_law_mixed), ("_law_stream", F_law_stream), ("_law_take", F_law_take), ("_law_own", F_law_own), ("_law_signs", F_law_signs), ("_law_plain", F_law_plain), ("_law_deed", F_law_deed), ("_law_places", F_law_places), ("_law_words", F_law_words), ("_law_held", F_law_held), ("law", F_law)] : List (Str × Nat))
  cls := [("Shelf", 0, F_Shelf___init__), ("Front", 1, F_Front___init__), ("Reader", 2, F_Reader___init__), ("Finder", 3, F_Finder___init__)]
  mtd := ([("Shelf", "__init__", F_Shelf___init__), ("Shelf", "want", F_Shelf_want), ("Shelf", "want_piece", F_Shelf_want_piece), ("Shelf", "many", F_Shelf_many), ("Shelf", "piece", F_Shelf_piece), ("Shelf", "signs", F_Shelf_signs), ("Shelf", "ends", F_Shelf_ends), ("Shelf", "leaves", F_Shelf_leaves), ("Shelf", "height", F_Shelf_height), ("Shelf", "first_leaf", F_Shelf_first_leaf), ("Shelf", "last_leaf", F_Shelf_last_leaf), ("Shelf", "laid", F_Shelf_laid), ("Shelf", "leaf", F_Shelf_leaf), ("Shelf", "fork", F_Shelf_fork), ("Shelf", "is_loose", F_Shelf_is_loose), ("Front", "__init__", F_Front___init__)] : List (Str × Str × Nat)) ++ ([("Front", "is_over", F_Front_is_over), ("Front", "next_text", F_Front_next_text), ("Front", "opened", F_Front_opened), ("Front", "next_signs", F_Front_next_signs), ("Front", "go_on", F_Front_go_on), ("Front", "by_piece", F_Front_by_piece), ("Front", "by_signs", F_Front_by_signs), ("Reader", "__init__", F_Reader___init__), ("Reader", "is_over", F_Reader_is_over), ("Reader", "next_piece", F_Reader_next_piece), ("Reader", "passed", F_Reader_passed), ("Reader", "opened", F_Reader_opened), ("Reader", "next_sign", F_Reader_next_sign), ("Reader", "gone", F_Reader_gone), ("Finder", "__init__", F_Finder___init__), ("Finder", "ends_of", F_Finder_ends_of)] : List (Str × Str × Nat)) ++ ([("Finder", "seam", F_Finder_seam), ("Finder", "often", F_Finder_often), ("Finder", "place", F_Finder_place)] : List (Str × Str × Nat))
  mts := ([("by_piece", [(1, 66)]), ("by_signs", [(1, 67)]), ("ends", [(0, 15)]), ("ends_of", [(3, 94)]), ("first_leaf", [(0, 18)]), ("fork", [(0, 22)]), ("go_on", [(1, 65)]), ("gone", [(2, 84)]), ("height", [(0, 17)]), ("is_loose", [(0, 23)]), ("is_over", [(1, 61), (2, 79)]), ("laid", [(0, 20)]), ("last_leaf", [(0, 19)]), ("leaf", [(0, 21)]), ("leaves", [(0, 16)]), ("many", [(0, 12)])] : List (Str × List (Nat × Nat))) ++ ([("next_piece", [(2, 80)]), ("next_sign", [(2, 83)]), ("next_signs", [(1, 64)]), ("next_text", [(1, 62)]), ("often", [(3, 96)]), ("opened", [(1, 63), (2, 82)]), ("passed", [(2, 81)]), ("piece", [(0, 13)]), ("place", [(3, 97)]), ("seam", [(3, 95)]), ("signs", [(0, 14)]), ("want", [(0, 10)]), ("want_piece", [(0, 11)])] : List (Str × List (Nat × Nat)))
  exc := [("SkeinError", 0), ("NoText", 1), ("NoPiece", 2), ("Loose", 3), ("Unlevel", 4), ("TooLong", 5), ("NoPlace", 6), ("NoName", 7), ("NothingDone", 8), ("Torn", 9), ("NoLine", 10)]
theorem eo_lies_in : EntOk tab e_lies_in := ⟨by kernel_rfl, rfl, rfl, ⟨rfl, rfl, rfl, by decide +kernel, rfl, by decide +kernel, by decide +kernel⟩, fun _ _ _ _ _ _ us hl => match us, hl with | [_, _, _], _ => rfl⟩
theorem eo_way_and_place : EntOk tab e_way_and_place := ⟨by kernel_rfl, rfl, rfl, ⟨rfl, rfl, rfl, by decide +kernel, rfl, by decide +kernel, by decide +kernel⟩, fun _ _ _ _ _ _ us hl => match us, hl with | [_, _, _], _ => rfl⟩
theorem eo_way_to : EntOk tab e_way_to := ⟨by kernel_rfl, rfl, rfl, ⟨rfl, rfl, rfl, by decide +kernel, rfl, by decide +kernel, by decide +kernel⟩, fun _ _ _ _ _ _ us hl => match us, hl with | [_, _, _], _ => rfl⟩
theorem eo_way_stands : EntOk tab e_way_stands := ⟨by kernel_rfl, rfl, rfl, ⟨rfl, rfl, rfl, by decide +kernel, rfl, by decide +kernel, by decide +kernel⟩, fun _ _ _ _ _ _ us hl => match us, hl with | [_, _, _, _, _], _ => rfl⟩
theorem eo_sign_at : EntOk tab e_sign_at := ⟨by kernel_rfl, rfl, rfl, ⟨rfl, rfl, rfl, by decide +kernel, rfl, by decide +kernel, by decide +kernel⟩, fun _ _ _ _ _ _ us hl => match us, hl with | [_, _, _], _ => rfl⟩
theorem eo_gathered : EntOk tab e_gathered := ⟨by kernel_rfl, rfl, rfl, ⟨rfl, rfl, rfl, by decide +kernel, rfl, by decide +kernel, by decide +kernel⟩, fun _ _ _ _ _ _ us hl => match us, hl with | [_, _, _, _], _ => rfl⟩
theorem eo_stretch_of : EntOk tab e_stretch_of := ⟨by kernel_rfl, rfl, rfl, ⟨rfl, rfl, rfl, by decide +kernel, rfl, by decide +kernel, by decide +kernel⟩, fun _ _ _ _ _ _ us hl => match us, hl with | [_, _, _, _], _ => rfl⟩
theorem eo_whole_text : EntOk tab e_whole_text := ⟨by kernel_rfl, rfl, rfl, ⟨rfl, rfl, rfl, by decide +kernel, rfl, by decide +kernel, by decide +kernel⟩, fun _ _ _ _ _ _ us hl => match us, hl with | [_, _], _ => rfl⟩
theorem eo_is_whole : EntOk tab e_is_whole := ⟨by kernel_rfl, rfl, rfl, ⟨rfl, rfl, rfl, by decide +kernel, rfl, by decide +kernel, by decide +kernel⟩, fun _ _ _ _ _ _ us hl => match us, hl with | [_], _ => rfl⟩
theorem eo_is_plain : EntOk tab e_is_plain := ⟨by kernel_rfl, rfl, rfl, ⟨rfl, rfl, rfl, by decide +kernel, rfl, by decide +kernel, by decide +kernel⟩, fun _ _ _ _ _ _ us hl => match us, hl with | [_], _ => rfl⟩
theorem eo_ends_in : EntOk tab e_ends_in := ⟨by kernel_rfl, rfl, rfl, ⟨rfl, rfl, rfl, by decide +kernel, rfl, by decide +kernel, by decide +kernel⟩, fun _ _ _ _ _ _ us hl => match us, hl with | [_], _ => rfl⟩
theorem eo_Shelf___init__ : EntOk tab e_Shelf___init__ := ⟨by kernel_rfl, rfl, rfl, ⟨rfl, rfl, rfl, by decide +kernel, rfl, by decide +kernel, by decide +kernel⟩, fun _ _ _ _ _ _ us hl => match us, hl with | [_], _ => rfl⟩
theorem eo_Shelf_want : EntOk tab e_Shelf_want := ⟨by kernel_rfl, rfl, rfl, ⟨rfl, rfl, rfl, by decide +kernel, rfl, by decide +kernel, by decide +kernel⟩, fun _ _ _ _ _ _ us hl => match us, hl with | [_, _], _ => rfl⟩
theorem eo_Shelf_want_piece : EntOk tab e_Shelf_want_piece := ⟨by kernel_rfl, rfl, rfl, ⟨rfl, rfl, rfl, by decide +kernel, rfl, by decide +kernel, by decide +kernel⟩, fun _ _ _ _ _ _ us hl => match us, hl with | [_, _], _ => rfl⟩
theorem eo_Shelf_many : EntOk tab e_Shelf_many := ⟨by kernel_rfl, rfl, rfl, ⟨rfl, rfl, rfl, by decide +kernel, rfl, by decide +kernel, by decide +kernel⟩, fun _ _ _ _ _ _ us hl => match us, hl with | [_], _ => rfl⟩
theorem eo_Shelf_piece : EntOk tab e_Shelf_piece := ⟨by kernel_rfl, rfl, rfl, ⟨rfl, rfl, rfl, by decide +kernel, rfl, by decide +kernel, by decide +kernel⟩, fun _ _ _ _ _ _ us hl => match us, hl with | [_, _], _ => rfl⟩
theorem eo_Shelf_signs : EntOk tab e_Shelf_signs := ⟨by kernel_rfl, rfl, rfl, ⟨rfl, rfl, rfl, by decide +kernel, rfl, by decide +kernel, by decide +kernel⟩, fun _ _ _ _ _ _ us hl => match us, hl with | [_, _], _ => rfl⟩
theorem eo_Shelf_ends : EntOk tab e_Shelf_ends := ⟨by kernel_rfl, rfl, rfl, ⟨rfl, rfl, rfl, by decide +kernel, rfl, by decide +kernel, by decide +kernel⟩, fun _ _ _ _ _ _ us hl => match us, hl with | [_, _], _ => rfl⟩
theorem eo_Shelf_leaves : EntOk tab e_Shelf_leaves := ⟨by kernel_rfl, rfl, rfl, ⟨rfl, rfl, rfl, by decide +kernel, rfl, by decide +kernel, by decide +kernel⟩, fun _ _ _ _ _ _ us hl => match us, hl with | [_, _], _ => rfl⟩
theorem eo_Shelf_height : EntOk tab e_Shelf_height := ⟨by kernel_rfl, rfl, rfl, ⟨rfl, rfl, rfl, by decide +kernel, rfl, by decide +kernel, by decide +kernel⟩, fun _ _ _ _ _ _ us hl => match us, hl with | [_, _], _ => rfl⟩
theorem eo_Shelf_first_leaf : EntOk tab e_Shelf_first_leaf := ⟨by kernel_rfl, rfl, rfl, ⟨rfl, rfl, rfl, by decide +kernel, rfl, by decide +kernel, by decide +kernel⟩, fun _ _ _ _ _ _ us hl => match us, hl with | [_, _], _ => rfl⟩
theorem eo_Shelf_last_leaf : EntOk tab e_Shelf_last_leaf := ⟨by kernel_rfl, rfl, rfl, ⟨rfl, rfl, rfl, by decide +kernel, rfl, by decide +kernel, by decide +kernel⟩, fun _ _ _ _ _ _ us hl => match us, hl with | [_, _], _ => rfl⟩
theorem eo_Shelf_laid : EntOk tab e_Shelf_laid := ⟨by kernel_rfl, rfl, rfl, ⟨rfl, rfl, rfl, by decide +kernel, rfl, by decide +kernel, by decide +kernel⟩, fun _ _ _ _ _ _ us hl => match us, hl with | [_, _, _, _, _, _], _ => rfl⟩
theorem eo_Shelf_leaf : EntOk tab e_Shelf_leaf := ⟨by kernel_rfl, rfl, rfl, ⟨rfl, rfl, rfl, by decide +kernel, rfl, by decide +kernel, by decide +kernel⟩, fun _ _ _ _ _ _ us hl => match us, hl with | [_, _], _ => rfl⟩
theorem eo_Shelf_fork : EntOk tab e_Shelf_fork := ⟨by kernel_rfl, rfl, rfl, ⟨rfl, rfl, rfl, by decide +kernel, rfl, by decide +kernel, by decide +kernel⟩, fun _ _ _ _ _ _ us hl => match us, hl with | [_, _, _], _ => rfl⟩
theorem eo_Shelf_is_loose : EntOk tab e_Shelf_is_loose := ⟨by kernel_rfl, rfl, rfl, ⟨rfl, rfl, rfl, by decide +kernel, rfl, by decide +kernel, by decide +kernel⟩, fun _ _ _ _ _ _ us hl => match us, hl with | [_, _, _], _ => rfl⟩
theorem eo_is_leaf : EntOk tab e_is_leaf := ⟨by kernel_rfl, rfl, rfl, ⟨rfl, rfl, rfl, by decide +kernel, rfl, by decide +kernel, by decide +kernel⟩, fun _ _ _ _ _ _ us hl => match us, hl with | [_, _], _ => rfl⟩
theorem eo_parts_of : EntOk tab e_parts_of := ⟨by kernel_rfl, rfl, rfl, ⟨rfl, rfl, rfl, by decide +kernel, rfl, by decide +kernel, by decide +kernel⟩, fun _ _ _ _ _ _ us hl => match us, hl with | [_, _], _ => rfl⟩
theorem eo_turned_right : EntOk tab e_turned_right := ⟨by kernel_rfl, rfl, rfl, ⟨rfl, rfl, rfl, by decide +kernel, rfl, by decide +kernel, by decide +kernel⟩, fun _ _ _ _ _ _ us hl => match us, hl with | [_, _, _], _ => rfl⟩
theorem eo_turned_left : EntOk tab e_turned_left := ⟨by kernel_rfl, rfl, rfl, ⟨rfl, rfl, rfl, by decide +kernel, rfl, by decide +kernel, by decide +kernel⟩, fun _ _ _ _ _ _ us hl => match us, hl with | [_, _, _], _ => rfl⟩
theorem eo_levelled : EntOk tab e_levelled := ⟨by kernel_rfl, rfl, rfl, ⟨rfl, rfl, rfl, by decide +kernel, rfl, by decide +kernel, by decide +kernel⟩, fun _ _ _ _ _ _ us hl => match us, hl with | [_, _, _], _ => rfl⟩
theorem eo_linked : EntOk tab e_linked := ⟨by kernel_rfl, rfl, rfl, ⟨rfl, rfl, rfl, by decide +kernel, rfl, by decide +kernel, by decide +kernel⟩, fun _ _ _ _ _ _ us hl => match us, hl with | [_, _, _], _ => rfl⟩
theorem eo_without_last : EntOk tab e_without_last := ⟨by kernel_rfl, rfl, rfl, ⟨rfl, rfl, rfl, by decide +kernel, rfl, by decide +kernel, by decide +kernel⟩, fun _ _ _ _ _ _ us hl => match us, hl with | [_, _], _ => rfl⟩
theorem eo_without_first : EntOk tab e_without_first := ⟨by kernel_rfl, rfl, rfl, ⟨rfl, rfl, rfl, by decide +kernel, rfl, by decide +kernel, by decide +kernel⟩, fun _ _ _ _ _ _ us hl => match us, hl with | [_, _], _ => rfl⟩
theorem eo_leaf_text : EntOk tab e_leaf_text := ⟨by kernel_rfl, rfl, rfl, ⟨rfl, rfl, rfl, by decide +kernel, rfl, by decide +kernel, by decide +kernel⟩, fun _ _ _ _ _ _ us hl => match us, hl with | [_, _], _ => rfl⟩
theorem eo_poured : EntOk tab e_poured := ⟨by kernel_rfl, rfl, rfl, ⟨rfl, rfl, rfl, by decide +kernel, rfl, by decide +kernel, by decide +kernel⟩, fun _ _ _ _ _ _ us hl => match us, hl with | [_, _, _], _ => rfl⟩
theorem eo_joined : EntOk tab e_joined := ⟨by kernel_rfl, rfl, rfl, ⟨rfl, rfl, rfl, by decide +kernel, rfl, by decide +kernel, by decide +kernel⟩, fun _ _ _ _ _ _ us hl => match us, hl with | [_, _, _], _ => rfl⟩
theorem eo_built_of : EntOk tab e_built_of := ⟨by kernel_rfl, rfl, rfl, ⟨rfl, rfl, rfl, by decide +kernel, rfl, by decide +kernel, by decide +kernel⟩, fun _ _ _ _ _ _ us hl => match us, hl with | [_, _], _ => rfl⟩
theorem eo_built : EntOk tab e_built := ⟨by kernel_rfl, rfl, rfl, ⟨rfl, rfl, rfl, by decide +kernel, rfl, by decide +kernel, by decide +kernel⟩, fun _ _ _ _ _ _ us hl => match us, hl with | [_, _], _ => rfl⟩
theorem eo_Front___init__ : EntOk tab e_Front___init__ := ⟨by kernel_rfl, rfl, rfl, ⟨rfl, rfl, rfl, by decide +kernel, rfl, by decide +kernel, by decide +kernel⟩, fun _ _ _ _ _ _ us hl => match us, hl with | [_, _, _], _ => rfl⟩
theorem eo_Front_is_over : EntOk tab e_Front_is_over := ⟨by kernel_rfl, rfl, rfl, ⟨rfl, rfl, rfl, by decide +kernel, rfl, by decide +kernel, by decide +kernel⟩, fun _ _ _ _ _ _ us hl => match us, hl with | [_], _ => rfl⟩
theorem eo_Front_next_text : EntOk tab e_Front_next_text := ⟨by kernel_rfl, rfl, rfl, ⟨rfl, rfl, rfl, by decide +kernel, rfl, by decide +kernel, by decide +kernel⟩, fun _ _ _ _ _ _ us hl => match us, hl with | [_], _ => rfl⟩
theorem eo_Front_opened : EntOk tab e_Front_opened := ⟨by kernel_rfl, rfl, rfl, ⟨rfl, rfl, rfl, by decide +kernel, rfl, by decide +kernel, by decide +kernel⟩, fun _ _ _ _ _ _ us hl => match us, hl with | [_], _ => rfl⟩
theorem eo_Front_next_signs : EntOk tab e_Front_next_signs := ⟨by kernel_rfl, rfl, rfl, ⟨rfl, rfl, rfl, by decide +kernel, rfl, by decide +kernel, by decide +kernel⟩, fun _ _ _ _ _ _ us hl => match us, hl with | [_], _ => rfl⟩
theorem eo_Front_go_on : EntOk tab e_Front_go_on := ⟨by kernel_rfl, rfl, rfl, ⟨rfl, rfl, rfl, by decide +kernel, rfl, by decide +kernel, by decide +kernel⟩, fun _ _ _ _ _ _ us hl => match us, hl with | [_, _], _ => rfl⟩
theorem eo_Front_by_piece : EntOk tab e_Front_by_piece := ⟨by kernel_rfl, rfl, rfl, ⟨rfl, rfl, rfl, by decide +kernel, rfl, by decide +kernel, by decide +kernel⟩, fun _ _ _ _ _ _ us hl => match us, hl with | [_, _], _ => rfl⟩
theorem eo_Front_by_signs : EntOk tab e_Front_by_signs := ⟨by kernel_rfl, rfl, rfl, ⟨rfl, rfl, rfl, by decide +kernel, rfl, by decide +kernel, by decide +kernel⟩, fun _ _ _ _ _ _ us hl => match us, hl with | [_, _], _ => rfl⟩
theorem eo_is_plain_item : EntOk tab e_is_plain_item := ⟨by kernel_rfl, rfl, rfl, ⟨rfl, rfl, rfl, by decide +kernel, rfl, by decide +kernel, by decide +kernel⟩, fun _ _ _ _ _ _ us hl => match us, hl with | [_], _ => rfl⟩
theorem eo_spell_on : EntOk tab e_spell_on := ⟨by kernel_rfl, rfl, rfl, ⟨rfl, rfl, rfl, by decide +kernel, rfl, by decide +kernel, by decide +kernel⟩, fun _ _ _ _ _ _ us hl => match us, hl with | [_, _], _ => rfl⟩
theorem eo_spells : EntOk tab e_spells := ⟨by kernel_rfl, rfl, rfl, ⟨rfl, rfl, rfl, by decide +kernel, rfl, by decide +kernel, by decide +kernel⟩, fun _ _ _ _ _ _ us hl => match us, hl with | [_, _, _], _ => rfl⟩
theorem eo_begins_text : EntOk tab e_begins_text := ⟨by kernel_rfl, rfl, rfl, ⟨rfl, rfl, rfl, by decide +kernel, rfl, by decide +kernel, by decide +kernel⟩, fun _ _ _ _ _ _ us hl => match us, hl with | [_, _, _], _ => rfl⟩
theorem eo_items_signs : EntOk tab e_items_signs := ⟨by kernel_rfl, rfl, rfl, ⟨rfl, rfl, rfl, by decide +kernel, rfl, by decide +kernel, by decide +kernel⟩, fun _ _ _ _ _ _ us hl => match us, hl with | [_, _], _ => rfl⟩
theorem eo_Reader___init__ : EntOk tab e_Reader___init__ := ⟨by kernel_rfl, rfl, rfl, ⟨rfl, rfl, rfl, by decide +kernel, rfl, by decide +kernel, by decide +kernel⟩, fun _ _ _ _ _ _ us hl => match us, hl with | [_, _, _], _ => rfl⟩
theorem eo_Reader_is_over : EntOk tab e_Reader_is_over := ⟨by kernel_rfl, rfl, rfl, ⟨rfl, rfl, rfl, by decide +kernel, rfl, by decide +kernel, by decide +kernel⟩, fun _ _ _ _ _ _ us hl => match us, hl with | [_], _ => rfl⟩
theorem eo_Reader_next_piece : EntOk tab e_Reader_next_piece := ⟨by kernel_rfl, rfl, rfl, ⟨rfl, rfl, rfl, by decide +kernel, rfl, by decide +kernel, by decide +kernel⟩, fun _ _ _ _ _ _ us hl => match us, hl with | [_], _ => rfl⟩
theorem eo_Reader_passed : EntOk tab e_Reader_passed := ⟨by kernel_rfl, rfl, rfl, ⟨rfl, rfl, rfl, by decide +kernel, rfl, by decide +kernel, by decide +kernel⟩, fun _ _ _ _ _ _ us hl => match us, hl with | [_], _ => rfl⟩
theorem eo_Reader_opened : EntOk tab e_Reader_opened := ⟨by kernel_rfl, rfl, rfl, ⟨rfl, rfl, rfl, by decide +kernel, rfl, by decide +kernel, by decide +kernel⟩, fun _ _ _ _ _ _ us hl => match us, hl with | [_], _ => rfl⟩
theorem eo_Reader_next_sign : EntOk tab e_Reader_next_sign := ⟨by kernel_rfl, rfl, rfl, ⟨rfl, rfl, rfl, by decide +kernel, rfl, by decide +kernel, by decide +kernel⟩, fun _ _ _ _ _ _ us hl => match us, hl with | [_], _ => rfl⟩
theorem eo_Reader_gone : EntOk tab e_Reader_gone := ⟨by kernel_rfl, rfl, rfl, ⟨rfl, rfl, rfl, by decide +kernel, rfl, by decide +kernel, by decide +kernel⟩, fun _ _ _ _ _ _ us hl => match us, hl with | [_, _], _ => rfl⟩
theorem eo_in_common : EntOk tab e_in_common := ⟨by kernel_rfl, rfl, rfl, ⟨rfl, rfl, rfl, by decide +kernel, rfl, by decide +kernel, by decide +kernel⟩, fun _ _ _ _ _ _ us hl => match us, hl with | [_, _], _ => rfl⟩
theorem eo_opened_one : EntOk tab e_opened_one := ⟨by kernel_rfl, rfl, rfl, ⟨rfl, rfl, rfl, by decide +kernel, rfl, by decide +kernel, by decide +kernel⟩, fun _ _ _ _ _ _ us hl => match us, hl with | [_, _, _], _ => rfl⟩
theorem eo_with_signs : EntOk tab e_with_signs := ⟨by kernel_rfl, rfl, rfl, ⟨rfl, rfl, rfl, by decide +kernel, rfl, by decide +kernel, by decide +kernel⟩, fun _ _ _ _ _ _ us hl => match us, hl with | [_, _], _ => rfl⟩
theorem eo_held_together : EntOk tab e_held_together := ⟨by kernel_rfl, rfl, rfl, ⟨rfl, rfl, rfl, by decide +kernel, rfl, by decide +kernel, by decide +kernel⟩, fun _ _ _ _ _ _ us hl => match us, hl with | [_, _, _], _ => rfl⟩
theorem eo_sign_behind : EntOk tab e_sign_behind := ⟨by kernel_rfl, rfl, rfl, ⟨rfl, rfl, rfl, by decide +kernel, rfl, by decide +kernel, by decide +kernel⟩, fun _ _ _ _ _ _ us hl => match us, hl with | [_, _, _], _ => rfl⟩
theorem eo_told_stands : EntOk tab e_told_stands := ⟨by kernel_rfl, rfl, rfl, ⟨rfl, rfl, rfl, by decide +kernel, rfl, by decide +kernel, by decide +kernel⟩, fun _ _ _ _ _ _ us hl => match us, hl with | [_, _, _, _], _ => rfl⟩
theorem eo_want_stretch : EntOk tab e_want_stretch := ⟨by kernel_rfl, rfl, rfl, ⟨rfl, rfl, rfl, by decide +kernel, rfl, by decide +kernel, by decide +kernel⟩, fun _ _ _ _ _ _ us hl => match us, hl with | [_, _, _, _], _ => rfl⟩
theorem eo_leaf_cut : EntOk tab e_leaf_cut := ⟨by kernel_rfl, rfl, rfl, ⟨rfl, rfl, rfl, by decide +kernel, rfl, by decide +kernel, by decide +kernel⟩, fun _ _ _ _ _ _ us hl => match us, hl with | [_, _, _], _ => rfl⟩
theorem eo_halves : EntOk tab e_halves := ⟨by kernel_rfl, rfl, rfl, ⟨rfl, rfl, rfl, by decide +kernel, rfl, by decide +kernel, by decide +kernel⟩, fun _ _ _ _ _ _ us hl => match us, hl with | [_, _, _], _ => rfl⟩
theorem eo_put_in : EntOk tab e_put_in := ⟨by kernel_rfl, rfl, rfl, ⟨rfl, rfl, rfl, by decide +kernel, rfl, by decide +kernel, by decide +kernel⟩, fun _ _ _ _ _ _ us hl => match us, hl with | [_, _, _, _], _ => rfl⟩
theorem eo_taken_out : EntOk tab e_taken_out := ⟨by kernel_rfl, rfl, rfl, ⟨rfl, rfl, rfl, by decide +kernel, rfl, by decide +kernel, by decide +kernel⟩, fun _ _ _ _ _ _ us hl => match us, hl with | [_, _, _, _], _ => rfl⟩
theorem eo_look_at_word : EntOk tab e_look_at_word := ⟨by kernel_rfl, rfl, rfl, ⟨rfl, rfl, rfl, by decide +kernel, rfl, by decide +kernel, by decide +kernel⟩, fun _ _ _ _ _ _ us hl => match us, hl with | [_], _ => rfl⟩
theorem eo_places_in : EntOk tab e_places_in := ⟨by kernel_rfl, rfl, rfl, ⟨rfl, rfl, rfl, by decide +kernel, rfl, by decide +kernel, by decide +kernel⟩, fun _ _ _ _ _ _ us hl => match us, hl with | [_, _], _ => rfl⟩
theorem eo_Finder___init__ : EntOk tab e_Finder___init__ := ⟨by kernel_rfl, rfl, rfl, ⟨rfl, rfl, rfl, by decide +kernel, rfl, by decide +kernel, by decide +kernel⟩, fun _ _ _ _ _ _ us hl => match us, hl with | [_, _, _], _ => rfl⟩
theorem eo_Finder_ends_of : EntOk tab e_Finder_ends_of := ⟨by kernel_rfl, rfl, rfl, ⟨rfl, rfl, rfl, by decide +kernel, rfl, by decide +kernel, by decide +kernel⟩, fun _ _ _ _ _ _ us hl => match us, hl with | [_, _], _ => rfl⟩
theorem eo_Finder_seam : EntOk tab e_Finder_seam := ⟨by kernel_rfl, rfl, rfl, ⟨rfl, rfl, rfl, by decide +kernel, rfl, by decide +kernel, by decide +kernel⟩, fun _ _ _ _ _ _ us hl => match us, hl with | [_, _, _], _ => rfl⟩
theorem eo_Finder_often : EntOk tab e_Finder_often := ⟨by kernel_rfl, rfl, rfl, ⟨rfl, rfl, rfl, by decide +kernel, rfl, by decide +kernel, by decide +kernel⟩, fun _ _ _ _ _ _ us hl => match us, hl with | [_, _], _ => rfl⟩
theorem eo_Finder_place : EntOk tab e_Finder_place := ⟨by kernel_rfl, rfl, rfl, ⟨rfl, rfl, rfl, by decide +kernel, rfl, by decide +kernel, by decide +kernel⟩, fun _ _ _ _ _ _ us hl => match us, hl with | [_, _, _], _ => rfl⟩
theorem eo_count_of : EntOk tab e_count_of := ⟨by kernel_rfl, rfl, rfl, ⟨rfl, rfl, rfl, by decide +kernel, rfl, by decide +kernel, by decide +kernel⟩, fun _ _ _ _ _ _ us hl => match us, hl with | [_, _, _], _ => rfl⟩
theorem eo_place_of : EntOk tab e_place_of := ⟨by kernel_rfl, rfl, rfl, ⟨rfl, rfl, rfl, by decide +kernel, rfl, by decide +kernel, by decide +kernel⟩, fun _ _ _ _ _ _ us hl => match us, hl with | [_, _, _, _], _ => rfl⟩
theorem eo_rows_in : EntOk tab e_rows_in := ⟨by kernel_rfl, rfl, rfl, ⟨rfl, rfl, rfl, by decide +kernel, rfl, by decide +kernel, by decide +kernel⟩, fun _ _ _ _ _ _ us hl => match us, hl with | [_, _], _ => rfl⟩
theorem eo_ends_ahead : EntOk tab e_ends_ahead := ⟨by kernel_rfl, rfl, rfl, ⟨rfl, rfl, rfl, by decide +kernel, rfl, by decide +kernel, by decide +kernel⟩, fun _ _ _ _ _ _ us hl => match us, hl with | [_, _, _], _ => rfl⟩
theorem eo_place_behind : EntOk tab e_place_behind := ⟨by kernel_rfl, rfl, rfl, ⟨rfl, rfl, rfl, by decide +kernel, rfl, by decide +kernel, by decide +kernel⟩, fun _ _ _ _ _ _ us hl => match us, hl with | [_, _, _], _ => rfl⟩
theorem eo_row_begin : EntOk tab e_row_begin := ⟨by kernel_rfl, rfl, rfl, ⟨rfl, rfl, rfl, by decide +kernel, rfl, by decide +kernel, by decide +kernel⟩, fun _ _ _ _ _ _ us hl => match us, hl with | [_, _, _], _ => rfl⟩
theorem eo_row_end : EntOk tab e_row_end := ⟨by kernel_rfl, rfl, rfl, ⟨rfl, rfl, rfl, by decide +kernel, rfl, by decide +kernel, by decide +kernel⟩, fun _ _ _ _ _ _ us hl => match us, hl with | [_, _, _], _ => rfl⟩
theorem eo_row_at : EntOk tab e_row_at := ⟨by kernel_rfl, rfl, rfl, ⟨rfl, rfl, rfl, by decide +kernel, rfl, by decide +kernel, by decide +kernel⟩, fun _ _ _ _ _ _ us hl => match us, hl with | [_, _, _], _ => rfl⟩
theorem eo_row_text : EntOk tab e_row_text := ⟨by kernel_rfl, rfl, rfl, ⟨rfl, rfl, rfl, by decide +kernel, rfl, by decide +kernel, by decide +kernel⟩, fun _ _ _ _ _ _ us hl => match us, hl with | [_, _, _], _ => rfl⟩
theorem eo_law_mixed : EntOk tab e_law_mixed := ⟨by kernel_rfl, rfl, rfl, ⟨rfl, rfl, rfl, by decide +kernel, rfl, by decide +kernel, by decide +kernel⟩, fun _ _ _ _ _ _ us hl => match us, hl with | [_, _], _ => rfl⟩
theorem eo_law_stream : EntOk tab e_law_stream := ⟨by kernel_rfl, rfl, rfl, ⟨rfl, rfl, rfl, by decide +kernel, rfl, by decide +kernel, by decide +kernel⟩, fun _ _ _ _ _ _ us hl => match us, hl with | [_, _], _ => rfl⟩
theorem eo_law_take : EntOk tab e_law_take := ⟨by kernel_rfl, rfl, rfl, ⟨rfl, rfl, rfl, by decide +kernel, rfl, by decide +kernel, by decide +kernel⟩, fun _ _ _ _ _ _ us hl => match us, hl with | [_, _], _ => rfl⟩
theorem eo_law_own : EntOk tab e_law_own := ⟨by kernel_rfl, rfl, rfl, ⟨rfl, rfl, rfl, by decide +kernel, rfl, by decide +kernel, by decide +kernel⟩, fun _ _ _ _ _ _ us hl => match us, hl with | [_, _], _ => rfl⟩
theorem eo_law_signs : EntOk tab e_law_signs := ⟨by kernel_rfl, rfl, rfl, ⟨rfl, rfl, rfl, by decide +kernel, rfl, by decide +kernel, by decide +kernel⟩, fun _ _ _ _ _ _ us hl => match us, hl with | [_], _ => rfl⟩
theorem eo_law_plain : EntOk tab e_law_plain := ⟨by kernel_rfl, rfl, rfl, ⟨rfl, rfl, rfl, by decide +kernel, rfl, by decide +kernel, by decide +kernel⟩, fun _ _ _ _ _ _ us hl => match us, hl with | [_, _], _ => rfl⟩
theorem eo_law_deed : EntOk tab e_law_deed := ⟨by kernel_rfl, rfl, rfl, ⟨rfl, rfl, rfl, by decide +kernel, rfl, by decide +kernel, by decide +kernel⟩, fun _ _ _ _ _ _ us hl => match us, hl with | [_, _, _, _], _ => rfl⟩
theorem eo_law_places : EntOk tab e_law_places := ⟨by kernel_rfl, rfl, rfl, ⟨rfl, rfl, rfl, by decide +kernel, rfl, by decide +kernel, by decide +kernel⟩, fun _ _ _ _ _ _ us hl => match us, hl with | [_, _, _, _], _ => rfl⟩
theorem eo_law_words : EntOk tab e_law_words := ⟨by kernel_rfl, rfl, rfl, ⟨rfl, rfl, rfl, by decide +kernel, rfl, by decide +kernel, by decide +kernel⟩, fun _ _ _ _ _ _ us hl => match us, hl with | [_, _, _, _], _ => rfl⟩
theorem eo_law_held : EntOk tab e_law_held := ⟨by kernel_rfl, rfl, rfl, ⟨rfl, rfl, rfl, by decide +kernel, rfl, by decide +kernel, by decide +kernel⟩, fun _ _ _ _ _ _ us hl => match us, hl with | [_, _, _, _, _], _ => rfl⟩
theorem eo_law : EntOk tab e_law := ⟨by kernel_rfl, rfl, rfl, ⟨rfl, rfl, rfl, by decide +kernel, rfl, by decide +kernel, by decide +kernel⟩, fun _ _ _ _ _ _ us hl => match us, hl with | [_], _ => rfl⟩
theorem ents_ok : ∀ e ∈ ents, EntOk tab e := (all_app (all_app (all_app (all_app (all_app (all_app (all_cons eo_lies_in (all_cons eo_way_and_place (all_cons eo_way_to (all_cons eo_way_stands (all_cons eo_sign_at (all_cons eo_gathered (all_cons eo_stretch_of (all_cons eo_whole_text (all_cons eo_is_whole (all_cons eo_is_plain (all_cons eo_ends_in (all_cons eo_Shelf___init__ (all_cons eo_Shelf_want (all_cons eo_Shelf_want_piece (all_cons eo_Shelf_many (all_cons eo_Shelf_piece (all_nil))))))))))))))))) (all_cons eo_Shelf_signs (all_cons eo_Shelf_ends (all_cons eo_Shelf_leaves (all_cons eo_Shelf_height (all_cons eo_Shelf_first_leaf (all_cons eo_Shelf_last_leaf (all_cons eo_Shelf_laid (all_cons eo_Shelf_leaf (all_cons eo_Shelf_fork (all_cons eo_Shelf_is_loose (all_cons eo_is_leaf (all_cons eo_parts_of (all_cons eo_turned_right (all_cons eo_turned_left (all_cons eo_levelled (all_cons eo_linked (all_nil)))))))))))))))))) (all_cons eo_without_last (all_cons eo_without_first (all_cons eo_leaf_text (all_cons eo_poured (all_cons eo_joined (all_cons eo_built_of (all_cons eo_built (all_cons eo_Front___init__ (all_cons eo_Front_is_over (all_cons eo_Front_next_text (all_cons eo_Front_opened (all_cons eo_Front_next_signs (all_cons eo_Front_go_on (all_cons eo_Front_by_piece (all_cons eo_Front_by_signs (all_cons eo_is_plain_item (all_nil)))))))))))))))))) (all_cons eo_spell_on (all_cons eo_spells (all_cons eo_begins_text (all_cons eo_items_signs (all_cons eo_Reader___init__ (all_cons eo_Reader_is_over (all_cons eo_Reader_next_piece (all_cons eo_Reader_passed (all_cons eo_Reader_opened (all_cons eo_Reader_next_sign (all_cons eo_Reader_gone (all_cons eo_in_common (all_cons eo_opened_one (all_cons eo_with_signs (all_cons eo_held_together (all_cons eo_sign_behind (all_nil)))))))))))))))))) (all_cons eo_told_stands (all_cons eo_want_stretch (all_cons eo_leaf_cut (all_cons eo_halves (all_cons eo_put_in (all_cons eo_taken_out (all_cons eo_look_at_word (all_cons eo_places_in (all_cons eo_Finder___init__ (all_cons eo_Finder_ends_of (all_cons eo_Finder_seam (all_cons eo_Finder_often (all_cons eo_Finder_place (all_cons eo_count_of (all_cons eo_place_of (all_cons eo_rows_in (all_nil)))))))))))))))))) (all_cons eo_ends_ahead (all_cons eo_place_behind (all_cons eo_row_begin (all_cons eo_row_end (all_cons eo_row_at (all_cons eo_row_text (all_cons eo_law_mixed (all_cons eo_law_stream (all_cons eo_law_take (all_cons eo_law_own (all_cons eo_law_signs (all_cons eo_law_plain (all_cons eo_law_deed (all_cons eo_law_places (all_cons eo_law_words (all_cons eo_law_held (all_nil)))))))))))))))))) (all_cons eo_law (all_nil)))
end SW
end

section
set_option Elab.async false
set_option linter.all false
set_option maxRecDepth 100000
/-! The head's Hook, with a cheaper walk to the objects (a mask of bits says which were met), and its run in parts. -/
namespace SW
open PySem PySem.Spec PyProof.Rows L2
/-- those that the mask does not hold; the mask with them -/
def newA : List Addr → Nat → List Addr → List Addr × Nat
  | [], m, acc => (acc.reverse, m)
  | a :: r, m, acc => match Nat.beq (Nat.land (Nat.shiftRight m a) 1) 0 with
    | true => newA r (Nat.lor m (Nat.shiftLeft 1 a)) (a :: acc)
    | false => newA r m acc
/-- n levels, each object opened once -/
def lvA (g : Addr → Option Obj) : Nat → List Addr → Nat → List Addr
  | 0, fr, _ => fr
  | n + 1, fr, m => match newA (fr.flatMap fun a => match g a with
    | some o => He.refsD o
    | none => []) m [] with
    | (nx, m') => fr ++ lvA g n nx m'
def asB (g : Addr → Option Obj) (n : Nat) : List Addr := lvA g n [mainGlobals] (Nat.shiftLeft 1 mainGlobals)
def obsB (n : Nat) (fa : List He.Fa) (fn : List He.DefD) (g : Addr → Option Obj) : He.AlD := He.obsD fa fn (He.frG g (asB g n))
def hookB (n : Nat) (fa : List He.Fa) (fn : List He.DefD) : PySem.W.Hook where
  α := He.AlD
  obs := fun s => obsB n fa fn s.heap.get?
  val := fun _ => He.valD fn
  says := fun _ h => ∃ K : PySem.W.Frag, K.In h ∧ He.SaysD fa fn K
  of := fun _ _ e => ⟨_, He.frG_in, e⟩
  keeps := fun _ _ _ ⟨K, hK, c⟩ k => ⟨K, PySem.W.Frag.In.keeps hK k, c⟩
theorem obsB_eq {n : Nat} {fa : List He.Fa} {fn : List He.DefD} {g : Addr → Option Obj} {s : Shared} (h : ∀ a, g a = s.heap.get? a) : obsB n fa fn g = (hookB n fa fn).obs s := by
  have e : g = s.heap.get? := funext h
  rw [e] <;> rfl
theorem map3 {α β γ δ : Type} {r : Option α} {f : α → β} {g : α → γ} {h : α → δ} {b : β} {c : γ} {d : δ} (h1 : r.map f = some b) (h2 : r.map g = some c) (h3 : r.map h = some d) : r.map (fun s => (f s, g s, h s)) = some (b, c, d) := by
  cases r with
  | none => cases h1
  | some s =>
    simp only [Option.map_some, Option.some.injEq] at *
    rw [h1, h2, h3]
/-- the facts in parts -/
theorem map_obs {α : Type} {r : Option α} {K : α → PySem.W.Frag} {fa1 fa2 : List He.Fa} {fn1 fn2 : List He.DefD} (h1 : r.map (fun s => He.obsD fa1 fn1 (K s)) = some (He.valD fn1)) (h2 : r.map (fun s => He.obsD fa2 fn2 (K s)) = some (He.valD fn2)) :
    r.map (fun s => He.obsD (fa1 ++ fa2) (fn1 ++ fn2) (K s)) = some (He.valD (fn1 ++ fn2)) := by
  cases r with
  | none => cases h1
  | some s =>
    simp only [Option.map_some, Option.some.injEq] at *
    unfold He.obsD He.valD at *
    injection h1 with a1 a2
    injection h2 with b1 b2
    rw [Bool.and_eq_true] at a1 b1
    rw [List.all_append, List.all_append, List.map_append, List.map_append, a1.1, a1.2, b1.1, b1.2, a2, b2]
    rfl
end SW
end

section
set_option Elab.async false
set_option linter.all false
set_option maxRecDepth 100000
set_option maxHeartbeats 0
namespace SW
open PySem PySem.Spec PyProof.Rows L2
theorem tab_ok : TabOk tab ents := ⟨by decide +kernel, by decide +kernel, by decide +kernel, by decide +kernel⟩
def faL : List He.Fa := faOf tab
def fnL : List He.DefD := ents.map Ent.D
abbrev RL' : PySem.W.OpenRow := PySem.W.OpenLaw.row PySem.Challenge.rw_skeinwood_k97_whole_one_text_told_in_all
abbrev hkL : PySem.W.Hook := SW.hookB 6 faL fnL
def obL (s : PySem.W.SharedT) : He.AlD := SW.obsB 6 faL fnL (HandSHeadRun.getT s)
theorem obL_eq (s : PySem.W.SharedT) : obL s = hkL.obs s.abs := SW.obsB_eq (HandSHeadRun.getT_eq s)
def looseL : List PySem.Str := (["SkeinError", "NoText", "NoPiece", "Loose", "Unlevel", "TooLong", "NoPlace", "lies_in", "way_and_place", "way_to", "way_stands", "MOST_READ", "sign_at", "gathered", "stretch_of", "whole_text", "is_whole", "is_plain", "ends_in", "MOST_IN_LEAF", "MOST_SIGNS", "Shelf", "MOST_WRITTEN", "is_leaf", "parts_of", "turned_right", "turned_left", "levelled", "linked", "without_last"] : List PySem.Str) ++ (["without_first", "leaf_text", "poured", "joined", "built_of", "built", "Front", "is_plain_item", "spell_on", "spells", "begins_text", "items_signs", "MOST_HELD", "MOST_ITEM", "Reader", "in_common", "opened_one", "with_signs", "held_together", "sign_behind", "told_stands", "want_stretch", "leaf_cut", "halves", "put_in", "taken_out", "MOST_IN_WORD", "look_at_word", "places_in", "Finder"] : List PySem.Str) ++ (["count_of", "place_of", "rows_in", "ends_ahead", "place_behind", "row_begin", "row_end", "row_at", "row_text", "_law_mixed", "_law_stream", "_law_take", "_law_own", "_law_signs", "_law_plain", "_law_deed", "_law_places", "_law_words", "_law_held"] : List PySem.Str)
abbrev vwL : Program := PySem.W.view RL'.prog [91]
noncomputable abbrev rnL (w : World) (os : OsState) : Option PySem.W.SharedT := HandSHeadRun.endF (HandSHeadRun.stepQ (HandSHeadRun.denQ HandSHeadRun.tabQ) RL'.prog w) 12000 RL'.prog w os
theorem runA (w : World) (os : OsState) : (rnL w os).map (fun s => HandSHeadRun.looksF RL'.prog (PySem.W.boot_heap w.params) s.abs) = some true := by kernel_rfl
theorem runB (w : World) (os : OsState) : (rnL w os).map (fun s => HandSHeadRun.seenQ vwL looseL (importedModules RL'.prog.main.body) (fun s => PySem.W.xlAt vwL [] s && PySem.W.recOk RL'.toRowW.records s) s.abs) = some (PySem.W.openGood vwL looseL) := by kernel_rfl
theorem runC (w : World) (os : OsState) : (rnL w os).map (fun s => obL s) = some (hkL.val w) := by kernel_rfl
theorem runL (w : World) : HandSHeadRun.RunEq RL' vwL hkL obL 12000 looseL w := fun os => SW.map3 (runA w os) (runB w os) (runC w os)
end SW
end

section
set_option Elab.async false
set_option linter.all false
set_option maxRecDepth 100000
set_option maxHeartbeats 4000000
/-! Readings, a step at a time, by instances. -/
namespace SW
open PySem L2
/-- p holds if q does -/
class Step (p : Prop) (q : outParam Prop) : Prop where
  go : q → p
theorem go {p q : Prop} [s : Step p q] (h : q) : p := s.go h
/-- what stands in a slot; the slots behind a store -/
class Slot (σ : L2.St) (i : Nat) (v : outParam V) : Prop where
  h : σ[i]? = some (some v)
instance {v : V} {r : L2.St} : Slot (some v :: r) 0 v := ⟨rfl⟩
instance {v : V} {x : Option V} {r : L2.St} {i : Nat} [s : Slot r i v] : Slot (x :: r) (i + 1) v := ⟨by simpa using s.h⟩
class SetS (σ : L2.St) (i : Nat) (x : Option V) (σ' : outParam L2.St) : Prop where
  h : σ.set i x = σ'
instance {x y : Option V} {r : L2.St} : SetS (y :: r) 0 x (x :: r) := ⟨rfl⟩
instance {x y : Option V} {r r' : L2.St} {i : Nat} [s : SetS r i x r'] : SetS (y :: r) (i + 1) x (y :: r') := ⟨by rw [List.set_cons_succ, s.h]⟩
class SetSs (σ : L2.St) (is : List Nat) (xs : List V) (σ' : outParam L2.St) : Prop where
  h : (is.zip xs).foldl (fun s p => s.set p.1 (some p.2)) σ = σ'
instance {σ : L2.St} : SetSs σ [] [] σ := ⟨rfl⟩
instance {σ σ1 σ2 : L2.St} {i : Nat} {is : List Nat} {x : V} {xs : List V} [s : SetS σ i (some x) σ1] [t : SetSs σ1 is xs σ2] : SetSs σ (i :: is) (x :: xs) σ2 := ⟨by
  show (is.zip xs).foldl _ (σ.set i (some x)) = σ2
  rw [s.h]; exact t.h⟩
/-- what stands at an address -/
class At (g : G) (a : Addr) (o : outParam O) : Prop where
  h : g a = some o
class Fr (g : G) (a : Addr) : Prop where
  h : g a = none
class NeA (a b : Addr) : Prop where
  h : a ≠ b
theorem gus {g : G} {a : Addr} {o : O} : gu g a o a = some o := by unfold gu; rw [if_pos rfl]
theorem gun {g : G} {a b : Addr} {o : O} (h : b ≠ a) : gu g a o b = g b := by unfold gu; rw [if_neg h]
instance (priority := 2000) {g : G} {a : Addr} {o : O} : At (gu g a o) a o := ⟨gus⟩
instance (priority := 500) {g : G} {a b : Addr} {o u : O} [s : At g b u] [n : NeA b a] : At (gu g a o) b u := ⟨by rw [gun n.h]; exact s.h⟩
instance (priority := 900) {g : G} {a b : Addr} {o u : O} [s : At g b u] [n : Fr g a] : At (gu g a o) b u := ⟨by
  rw [gun]
  · exact s.h
  · rintro rfl; have := s.h; rw [n.h] at this; cases this⟩
theorem NeA.of_at {g : G} {a b : Addr} {o u : O} (s : At g a o) (t : At g b u) (h : o ≠ u) : NeA a b := ⟨by rintro rfl; exact h (Option.some.inj (s.h.symm.trans t.h))⟩
theorem NeA.of_fr {g : G} {a b : Addr} {o : O} (s : At g a o) (t : Fr g b) : NeA a b := ⟨by rintro rfl; have := s.h; rw [t.h] at this; cases this⟩
theorem NeA.symm {a b : Addr} (n : NeA a b) : NeA b a := ⟨fun e => n.h e.symm⟩
theorem Fr.of_gu {g : G} {a b : Addr} {o : O} (f : Fr (gu g a o) b) : Fr g b := ⟨by
  have := f.h
  unfold gu at this
  split at this
  · cases this
  · exact this⟩
theorem Fr.ne {g : G} {a b : Addr} {o : O} (f : Fr (gu g a o) b) : NeA a b := NeA.of_fr (g := gu g a o) inferInstance f
/-- a field -/
class Fld (fs : List (Nat × V)) (f : Nat) (v : outParam V) : Prop where
  h : fs.lookup f = some v
instance (priority := 2000) {f : Nat} {v : V} {r : List (Nat × V)} : Fld ((f, v) :: r) f v := ⟨by simp [List.lookup]⟩
theorem fld_no {f i : Nat} {v x : V} {r : List (Nat × V)} (s : Fld r f v) (h : (f == i) = false) : Fld ((i, x) :: r) f v := ⟨by rw [List.lookup_cons, h]; exact s.h⟩
class NeN (a b : Nat) : Prop where
  h : (a == b) = false
instance : NeN 0 (n + 1) := ⟨by simp⟩
instance : NeN (n + 1) 0 := ⟨by simp⟩
instance [s : NeN a b] : NeN (a + 1) (b + 1) := ⟨by have := s.h; simpa using this⟩
instance (priority := 500) {f i : Nat} {v x : V} {r : List (Nat × V)} [s : Fld r f v] [n : NeN f i] : Fld ((i, x) :: r) f v := fld_no s n.h
class PutN (f : Nat) (v : V) (fs : List (Nat × V)) (fs' : outParam (List (Nat × V))) : Prop where
  h : putN f v fs = fs'
instance {f : Nat} {v : V} : PutN f v [] [(f, v)] := ⟨rfl⟩
instance (priority := 2000) {f : Nat} {v x : V} {r : List (Nat × V)} : PutN f v ((f, x) :: r) ((f, v) :: r) := ⟨by simp [putN]⟩
instance (priority := 500) {f i : Nat} {v x : V} {r r' : List (Nat × V)} [s : PutN f v r r'] [n : NeN i f] : PutN f v ((i, x) :: r) ((i, x) :: r') := ⟨by
  have : i ≠ f := by have := n.h; simpa using this
  unfold putN
  rw [if_neg this, s.h]⟩

section
variable {kl : Addr → List V → Prop} {fn : Nat → SpG} {er : Nat → L2.St → G → Prop} {c : Cal} {σ σ' : L2.St} {g : G} {Q : VG} {QB : Bool → G → Prop} {QL : List V → G → Prop} {a b t : T} {x y : TB} {s u : TSt} {l : TLs} {nx : L2.St → G → Prop} {rt : VG} {bk ct : L2.St → G → Prop} {D : En}
/-! statements -/
instance : Step (sNext c ⟨nx, rt, bk, ct⟩ σ g) (nx σ g) := ⟨id⟩
instance : Step (sSeq s u c ⟨nx, rt, bk, ct⟩ σ g) (s c ⟨u c ⟨nx, rt, bk, ct⟩, rt, bk, ct⟩ σ g) := ⟨id⟩
instance : Step (sDrop a c ⟨nx, rt, bk, ct⟩ σ g) (a c σ g fun _ g1 => nx σ g1) := ⟨id⟩
instance : Step (sRet a c ⟨nx, rt, bk, ct⟩ σ g) (a c σ g rt) := ⟨id⟩
instance : Step (sRetN c ⟨nx, rt, bk, ct⟩ σ g) (rt .non g) := ⟨id⟩
instance : Step (sBrk c ⟨nx, rt, bk, ct⟩ σ g) (bk σ g) := ⟨id⟩
instance : Step (sIf x s u c D σ g) (x c σ g fun k g1 => if k = true then s c D σ g1 else u c D σ g1) := ⟨id⟩
instance {tg : TTg} : Step (sAsg a tg c ⟨nx, rt, bk, ct⟩ σ g) (a c σ g fun v g1 => tg c v σ g1 nx) := ⟨id⟩
instance {i : Nat} {v : V} {K : L2.St → G → Prop} [s : SetS σ i (some v) σ'] : Step (gN i c v σ g K) (K σ' g) := ⟨fun h => by unfold gN; rw [s.h]; exact h⟩
instance {is : List Nat} {p : Addr} {xs : List V} {K : L2.St → G → Prop} [e : At g p (.tup xs)] [s : SetSs σ is xs σ'] : Step (gTp is c (.ref p) σ g K) (xs.length = is.length ∧ K σ' g) := ⟨fun h => ⟨p, xs, rfl, e.h, h.1, by rw [s.h]; exact h.2⟩⟩
instance {f : Nat} : Step (sSetAt a f b c ⟨nx, rt, bk, ct⟩ σ g) (b c σ g fun v g1 => a c σ g1 fun x g2 => ∃ p cn fs, x = .ref p ∧ g2 p = some (.ins cn fs) ∧ f ∈ atOf cn ∧ fs.length < 1000 ∧ nx σ (gu g2 p (.ins cn (putN f v fs)))) := ⟨id⟩
instance {f cn : Nat} {p : Addr} {v : V} {fs fs' : List (Nat × V)} {K : G → Prop} [e : At g p (.ins cn fs)] [s : PutN f v fs fs'] : Step (∃ p' cn fs, V.ref p = .ref p' ∧ g p' = some (.ins cn fs) ∧ f ∈ atOf cn ∧ fs.length < 1000 ∧ K (gu g p' (.ins cn (putN f v fs)))) ((f ∈ atOf cn ∧ fs.length < 1000) ∧ K (gu g p (.ins cn fs'))) :=
  ⟨fun h => ⟨p, cn, fs, rfl, e.h, h.1.1, h.1.2, by rw [s.h]; exact h.2⟩⟩
/-! tests -/
instance : Step (tBl a c σ g QB) (a c σ g fun x g1 => ∃ k, x = .bl k ∧ QB k g1) := ⟨id⟩
instance {k : Bool} {K : Bool → Prop} : Step (∃ k', V.bl k = .bl k' ∧ K k') (K k) := ⟨fun h => ⟨k, rfl, h⟩⟩
instance : Step (tVal a c σ g QB) (a c σ g fun x g1 => truV c.kl x g1 QB) := ⟨id⟩
instance : Step (tAnd x y c σ g QB) (x c σ g fun k g1 => if k = true then y c σ g1 QB else QB false g1) := ⟨id⟩
instance : Step (tOr x y c σ g QB) (x c σ g fun k g1 => if k = true then QB true g1 else y c σ g1 QB) := ⟨id⟩
instance : Step (tNot x c σ g QB) (x c σ g fun k g1 => QB (!k) g1) := ⟨id⟩
instance : Step (tYes c σ g QB) (QB true g) := ⟨id⟩
instance {k : Bool} : Step (truV kl (.bl k) g QB) (QB k g) := ⟨id⟩
instance {A B : Prop} : Step (if true = true then A else B) A := ⟨fun h => by rw [if_pos rfl]; exact h⟩
instance {A B : Prop} : Step (if false = true then A else B) B := ⟨fun h => by rw [if_neg Bool.false_ne_true]; exact h⟩
instance {A B : Prop} : Step (if (!true) = true then A else B) B := ⟨fun h => by rw [if_neg (by decide)]; exact h⟩
instance {A B : Prop} : Step (if (!false) = true then A else B) A := ⟨fun h => by rw [if_pos (by decide)]; exact h⟩
/-! expressions -/
instance {i : Nat} {v : V} [s : Slot σ i v] : Step (eV i c σ g Q) (Q v g) := ⟨fun h => ⟨v, s.h, h⟩⟩
instance {v : V} : Step (eC v c σ g Q) (Q v g) := ⟨id⟩
instance {op : Operator} : Step (eBin op a b c σ g Q) (a c σ g fun x g1 => b c σ g1 fun y g2 => binV c.kl op x y g2 Q) := ⟨id⟩
instance : Step (eNeg a c σ g Q) (a c σ g fun x g1 => ∃ i, x = .int i ∧ Q (.int (-i)) g1) := ⟨id⟩
instance {i : Int} {K : Int → Prop} : Step (∃ j, V.int i = .int j ∧ K j) (K i) := ⟨fun h => ⟨i, rfl, h⟩⟩
instance {op : CmpOp} : Step (eCmp op a b c σ g Q) (a c σ g fun x g1 => b c σ g1 fun y g2 => cmpV c.kl op x y g2 fun k g3 => Q (.bl k) g3) := ⟨id⟩
instance {r : List (CmpOp × T)} : Step (eChn a r c σ g Q) (a c σ g fun x g1 => chn r x c σ g1 Q) := ⟨id⟩
instance {op : CmpOp} {v : V} : Step (chn [(op, b)] v c σ g Q) (b c σ g fun y g2 => cmpV c.kl op v y g2 fun k g3 => Q (.bl k) g3) := ⟨id⟩
instance {op : CmpOp} {v : V} {p : CmpOp × T} {r : List (CmpOp × T)} : Step (chn ((op, b) :: p :: r) v c σ g Q) (b c σ g fun y g2 => cmpV c.kl op v y g2 fun k g3 => if k = true then chn (p :: r) y c σ g3 Q else Q (.bl false) g3) := ⟨id⟩
instance : Step (eAnd a b c σ g Q) (a c σ g fun x g1 => truV c.kl x g1 fun k g2 => if k = true then b c σ g2 Q else Q x g2) := ⟨id⟩
instance : Step (eOr a b c σ g Q) (a c σ g fun x g1 => truV c.kl x g1 fun k g2 => if k = true then Q x g2 else b c σ g2 Q) := ⟨id⟩
instance : Step (eNot a c σ g Q) (a c σ g fun x g1 => truV c.kl x g1 fun k g2 => Q (.bl (!k)) g2) := ⟨id⟩
instance : Step (lNil c σ g QL) (QL [] g) := ⟨id⟩
instance : Step (lCons a l c σ g QL) (a c σ g fun x g1 => l c σ g1 fun xs g2 => QL (x :: xs) g2) := ⟨id⟩
instance : Step (eTup l c σ g Q) (l c σ g fun xs g1 => xs.length ≤ sizeLine ∧ ∀ p, g1 p = none → Q (.ref p) (gu g1 p (.tup xs))) := ⟨id⟩
instance : Step (eLst l c σ g Q) (l c σ g fun xs g1 => xs.length ≤ sizeLine ∧ ∀ p, g1 p = none → Q (.ref p) (gu g1 p (.lst xs))) := ⟨id⟩
instance : Step (eIx a b c σ g Q) (a c σ g fun x g1 => b c σ g1 fun y g2 => ixV c.kl x y g2 Q) := ⟨id⟩
instance {lo hi : Cal → L2.St → G → (Option Int → G → Prop) → Prop} : Step (eSl a lo hi c σ g Q) (a c σ g fun x g1 => lo c σ g1 fun l g2 => hi c σ g2 fun h g3 => slV c.kl x l h g3 Q) := ⟨id⟩
instance {K : Option Int → G → Prop} : Step (oNone c σ g K) (K none g) := ⟨id⟩
instance {K : Option Int → G → Prop} : Step (oSome a c σ g K) (a c σ g fun x g1 => ∃ i, x = .int i ∧ K (some i) g1) := ⟨id⟩
instance {f : Nat} : Step (eAt a f c σ g Q) (a c σ g fun x g1 => ∃ p cn fs v, x = .ref p ∧ g1 p = some (.ins cn fs) ∧ fs.lookup f = some v ∧ Q v g1) := ⟨id⟩
instance {f cn : Nat} {p : Addr} {fs : List (Nat × V)} {v : V} {K : V → Prop} [e : At g p (.ins cn fs)] [s : Fld fs f v] : Step (∃ p' cn fs v, V.ref p = .ref p' ∧ g p' = some (.ins cn fs) ∧ fs.lookup f = some v ∧ K v) (K v) := ⟨fun h => ⟨p, cn, fs, v, rfl, e.h, s.h, h⟩⟩
instance {f : Bi} : Step (eBi f l c σ g Q) (l c σ g fun xs g1 => biV c.kl f xs g1 Q) := ⟨id⟩
instance {m : Bm} : Step (eBm m a l c σ g Q) (a c σ g fun x g1 => bmOk m x g1 ∧ l c σ g1 fun vs g2 => bmV c.kl m x vs g2 Q) := ⟨id⟩
instance {f : Nat} : Step (eFn f l ⟨kl, fn, er⟩ σ g Q) (l ⟨kl, fn, er⟩ σ g fun vs g1 => fn f vs g1 Q fun e g2 => er e σ g2) := ⟨id⟩
instance {cn f : Nat} : Step (eMk cn f l ⟨kl, fn, er⟩ σ g Q) (l ⟨kl, fn, er⟩ σ g fun vs g1 => ∀ p, g1 p = none → fn f (.ref p :: vs) (gu g1 p (.ins cn [])) (fun v g2 => v = .non ∧ Q (.ref p) g2) fun e g2 => er e σ g2) := ⟨id⟩
class MtL (ms : List (Nat × Nat)) (cn : Nat) (f : outParam Nat) : Prop where
  h : ms.lookup cn = some f
instance (priority := 2000) {cn f : Nat} {r : List (Nat × Nat)} : MtL ((cn, f) :: r) cn f := ⟨by simp [List.lookup]⟩
instance (priority := 500) {cn dn f f' : Nat} {r : List (Nat × Nat)} [s : MtL r cn f] [n : NeN cn dn] : MtL ((dn, f') :: r) cn f := ⟨by rw [List.lookup_cons, n.h]; exact s.h⟩
class ClsA (g : G) (a : Addr) (cn : outParam Nat) : Prop where
  h : clsOf g (.ref a) = some cn
/-- the class of the object -/
class ClsO (o : O) (cn : outParam Nat) : Prop where
  h : (match o with | .ins cn _ => some cn | .shf _ => some 0 | _ => none) = some cn
instance {cn : Nat} {fs : List (Nat × V)} : ClsO (.ins cn fs) cn := ⟨rfl⟩
instance {S : Sh} : ClsO (.shf S) 0 := ⟨rfl⟩
instance {p : Addr} {o : O} {cn : Nat} [e : At g p o] [k : ClsO o cn] : ClsA g p cn := ⟨by
  have := k.h
  unfold clsOf
  simp only []
  rw [e.h]
  cases o <;> first | exact this | (cases this)⟩
instance {ms : List (Nat × Nat)} : Step (eMt ms a l ⟨kl, fn, er⟩ σ g Q) (a ⟨kl, fn, er⟩ σ g fun x g1 => ∃ cn f, clsOf g1 x = some cn ∧ ms.lookup cn = some f ∧ l ⟨kl, fn, er⟩ σ g1 fun vs g2 => fn f (x :: vs) g2 Q fun e g3 => er e σ g3) := ⟨id⟩
instance {ms : List (Nat × Nat)} {p : Addr} {cn f : Nat} {K : Nat → Prop} [e : ClsA g p cn] [m : MtL ms cn f] : Step (∃ cn f, clsOf g (.ref p) = some cn ∧ ms.lookup cn = some f ∧ K f) (K f) := ⟨fun h => ⟨cn, f, e.h, m.h, h⟩⟩
/-! operations on values -/
instance {i j : Int} : Step (binV kl .Add (.int i) (.int j) g Q) (Q (.int (i + j)) g) := ⟨id⟩
instance {i j : Int} : Step (binV kl .Sub (.int i) (.int j) g Q) (Q (.int (i - j)) g) := ⟨id⟩
instance {i j : Str} : Step (binV kl .Add (.str i) (.str j) g Q) (i.length + j.length ≤ sizeLine ∧ Q (.str (i ++ j)) g) := ⟨id⟩
instance {i j : Int} : Step (binV kl .Mult (.int i) (.int j) g Q) (CMulW i j ∧ Q (.int (i * j)) g) := ⟨id⟩
instance {i j : Int} : Step (binV kl .FloorDiv (.int i) (.int j) g Q) (CDivW i j ∧ Q (.int (i / j)) g) := ⟨id⟩
instance {i j : Int} : Step (binV kl .Mod (.int i) (.int j) g Q) (0 < j ∧ Q (.int (i % j)) g) := ⟨id⟩
instance {i j : Int} : Step (binV kl .Pow (.int i) (.int j) g Q) (CPow i j ∧ Q (.int (i ^ j.toNat)) g) := ⟨id⟩
theorem ls_at [e : At g p (.lst xs)] : Ls kl g p xs := .inl e.h
instance {p q : Addr} {xs ys : List V} [e1 : At g p (.lst xs)] [e2 : At g q (.lst ys)] : Step (binV kl .Add (.ref p) (.ref q) g Q) (xs.length + ys.length ≤ sizeLine ∧ ∀ r, g r = none → Q (.ref r) (gu g r (.lst (xs ++ ys)))) := ⟨fun h => ⟨xs, ys, .inl e1.h, .inl e2.h, h⟩⟩
instance {i j : Int} : Step (cmpV kl .Lt (.int i) (.int j) g QB) (QB (decide (i < j)) g) := ⟨fun h => ⟨i, j, rfl, rfl, h⟩⟩
instance {i j : Int} : Step (cmpV kl .LtE (.int i) (.int j) g QB) (QB (decide (i ≤ j)) g) := ⟨id⟩
instance {i j : Str} : Step (cmpV kl .LtE (.str i) (.str j) g QB) (QB (!decide (j.cps.toList < i.cps.toList)) g) := ⟨id⟩
instance {i j : Int} : Step (cmpV kl .Gt (.int i) (.int j) g QB) (QB (decide (j < i)) g) := ⟨fun h => ⟨i, j, rfl, rfl, h⟩⟩
instance {i j : Int} : Step (cmpV kl .GtE (.int i) (.int j) g QB) (QB (decide (j ≤ i)) g) := ⟨fun h => ⟨i, j, rfl, rfl, h⟩⟩
instance {i j : Int} : Step (cmpV kl .Eq (.int i) (.int j) g QB) (QB (decide (i = j)) g) := ⟨fun h => .inl ⟨rfl, by
  have : decide (V.int i = V.int j) = decide (i = j) := by simp
  rw [this]; exact h⟩⟩
instance {i j : Int} : Step (cmpV kl .NotEq (.int i) (.int j) g QB) (QB (!decide (i = j)) g) := ⟨fun h => ⟨rfl, by
  have : decide (V.int i = V.int j) = decide (i = j) := by simp
  rw [this]; exact h⟩⟩
instance {i j : Str} : Step (cmpV kl .Eq (.str i) (.str j) g QB) (QB (decide (i = j)) g) := ⟨fun h => .inl ⟨rfl, by
  have : decide (V.str i = V.str j) = decide (i = j) := by simp
  rw [this]; exact h⟩⟩
instance {i j : Str} : Step (cmpV kl .NotEq (.str i) (.str j) g QB) (QB (!decide (i = j)) g) := ⟨fun h => ⟨rfl, by
  have : decide (V.str i = V.str j) = decide (i = j) := by simp
  rw [this]; exact h⟩⟩
instance {v : V} : Step (cmpV kl .Is v .non g QB) (QB (decide (v = .non)) g) := ⟨fun h => .inl ⟨rfl, h⟩⟩
instance {v : V} : Step (cmpV kl .IsNot v .non g QB) (QB (!decide (v = .non)) g) := ⟨fun h => .inl ⟨rfl, h⟩⟩
instance {p : Addr} {xs : List V} {i : Int} [e : At g p (.lst xs)] : Step (ixV kl (.ref p) (.int i) g Q) (∃ v, atI xs i = some v ∧ Q v g) := ⟨fun ⟨v, h, q⟩ => .inl ⟨xs, i, v, rfl, .inl (.inl e.h), h, q⟩⟩
instance (priority := 1500) {p : Addr} {xs : List V} {i : Int} [e : At g p (.tup xs)] : Step (ixV kl (.ref p) (.int i) g Q) (∃ v, atI xs i = some v ∧ Q v g) := ⟨fun ⟨v, h, q⟩ => .inl ⟨xs, i, v, rfl, .inr e.h, h, q⟩⟩
instance {p : Addr} {xs : List V} {lo hi : Option Int} [e : At g p (.lst xs)] : Step (slV kl (.ref p) lo hi g Q) (∀ r, g r = none → Q (.ref r) (gu g r (.lst (cutV xs lo hi)))) := ⟨fun h => ⟨xs, .inl e.h, h⟩⟩
instance {z : Str} {lo hi : Option Int} : Step (slV kl (.str z) lo hi g Q) (z.length ≤ sizeLine ∧ Q (.str (cutS z lo hi)) g) := ⟨id⟩
instance {z : Str} : Step (biV kl .len [.str z] g Q) (z.length ≤ sizeLine ∧ Q (.int z.length) g) := ⟨id⟩
instance {p : Addr} {xs : List V} [e : At g p (.lst xs)] : Step (biV kl .len [.ref p] g Q) (Q (.int xs.length) g) := ⟨fun h => .inl ⟨xs, .inl (.inl e.h), h⟩⟩
instance {i j : Int} : Step (biV kl .max [.int i, .int j] g Q) (Q (.int (if j > i then j else i)) g) := ⟨id⟩
instance {i j : Int} : Step (biV kl .min [.int i, .int j] g Q) (Q (.int (if j < i then j else i)) g) := ⟨id⟩
instance {i : Int} : Step (biV kl .abs [.int i] g Q) (Q (.int (if i < 0 then -i else i)) g) := ⟨id⟩
instance {k : Bool} : Step (biV kl .int [.bl k] g Q) (Q (.int (if k then 1 else 0)) g) := ⟨id⟩
instance {z : Str} : Step (biV kl .isstr [.str z] g Q) (Q (.bl true) g) := ⟨id⟩
instance {i : Int} : Step (biV kl .isstr [.int i] g Q) (Q (.bl false) g) := ⟨id⟩
instance {p : Addr} {xs : List V} [e : At g p (.lst xs)] {K : Prop} : Step (bmOk .append (.ref p) g ∧ K) K := ⟨fun h => ⟨⟨xs, e.h⟩, h⟩⟩
instance {p : Addr} {xs : List V} [e : At g p (.lst xs)] {K : Prop} : Step (bmOk .extend (.ref p) g ∧ K) K := ⟨fun h => ⟨⟨xs, e.h⟩, h⟩⟩
instance {p : Addr} {xs : List V} [e : At g p (.lst xs)] {K : Prop} : Step (bmOk .pop (.ref p) g ∧ K) K := ⟨fun h => ⟨⟨xs, e.h⟩, h⟩⟩
instance {z : Str} {K : Prop} : Step (bmOk .count (.str z) g ∧ K) K := ⟨fun h => ⟨trivial, h⟩⟩
instance {z : Str} {K : Prop} : Step (bmOk .join (.str z) g ∧ K) K := ⟨fun h => ⟨trivial, h⟩⟩
instance {p : Addr} {xs : List V} {v : V} [e : At g p (.lst xs)] : Step (bmV kl .append (.ref p) [v] g Q) (xs.length < sizeLine ∧ Q .non (gu g p (.lst (xs ++ [v])))) := ⟨fun h => ⟨p, xs, v, rfl, rfl, e.h, h⟩⟩
instance {p q : Addr} {xs ys : List V} [e : At g p (.lst xs)] [e2 : At g q (.lst ys)] : Step (bmV kl .extend (.ref p) [.ref q] g Q) (xs.length + ys.length ≤ sizeLine ∧ Q .non (gu g p (.lst (xs ++ ys)))) := ⟨fun h => ⟨p, q, xs, ys, rfl, rfl, e.h, e2.h, h⟩⟩
instance {y z : Str} : Step (bmV kl .count (.str y) [.str z] g Q) (Q (.int (Txt.count y z)) g) := ⟨fun h => ⟨y, z, rfl, rfl, h⟩⟩
end
/-! defs -/
theorem gam_of {kl : Addr → List V → Prop} {bs : Nat → SpG} {defs : Nat → Option FDef} {k f : Nat} {d : FDef} {vs : List V} {g : G} {Q : VG} {E : XG} (h : defs f = some d) (hl : vs.length = d.n)
    (hb : d.body ⟨kl, Gam kl bs defs k, fun e _ g' => ∃ g'', Sub g'' g' ∧ E e g''⟩ ⟨fun _ g' => ∃ g'', Sub g'' g' ∧ Q .non g'', fun v g' => ∃ g'', Sub g'' g' ∧ Q v g'', fun _ _ => False, fun _ _ => False⟩ (startG d.sz vs) g) : Gam kl bs defs (k + 1) f vs g Q E := by
  refine Or.inr ?_
  rw [h]
  exact ⟨hl, hb⟩
theorem Sub.refl (g : G) : Sub g g := fun _ _ h => h
theorem Sub.trans {a b c : G} (h : Sub a b) (k : Sub b c) : Sub a c := fun x o e => k x o (h x o e)
theorem Sub.new {g : G} {a : Addr} {o : O} (h : g a = none) : Sub g (gu g a o) := fun b u e => by
  rw [gun]
  · exact e
  · rintro rfl; rw [h] at e; cases e
theorem Sub.gu {g g' : G} {a : Addr} {o : O} (h : Sub g g') : Sub (gu g a o) (gu g' a o) := fun b u e => by
  unfold SW.gu at e ⊢
  split
  · rename_i hb; rw [if_pos hb] at e; exact e
  · rename_i hb; rw [if_neg hb] at e; exact h b u e
end SW
end

section
set_option Elab.async false
set_option linter.all false
set_option maxRecDepth 100000
set_option maxHeartbeats 4000000
/-! The shelf in plain Lean. -/
namespace SW
open PySem L2
/-! ### reads -/
def rdT (S : Sh) (f : PRec → Nat) : Nat → Nat
  | 0 => 0
  | t + 1 => ((S[t]?).map f).getD 0
abbrev sgT (S : Sh) (t : Nat) : Nat := rdT S PRec.sg t
abbrev enT (S : Sh) (t : Nat) : Nat := rdT S PRec.en t
abbrev lvT (S : Sh) (t : Nat) : Nat := rdT S PRec.lv t
abbrev hgT (S : Sh) (t : Nat) : Nat := rdT S PRec.ht t
abbrev fiT (S : Sh) (t : Nat) : Nat := rdT S PRec.fi t
abbrev laT (S : Sh) (t : Nat) : Nat := rdT S PRec.la t
def htT (S : Sh) : Nat → Int
  | 0 => -1
  | t + 1 => (hgT S (t + 1) : Int)
/-- a piece -/
def pcT (S : Sh) : Nat → Option (Sum Str (Nat × Nat))
  | 0 => none
  | t + 1 => (S[t]?).map (·.pc)
def lkF : Nat → Sh → Sum Str (Nat × Nat) → Option Nat
  | _, [], _ => none
  | n, r :: S, pc => if r.pc = pc then some (n + 1) else lkF (n + 1) S pc
abbrev lkP (S : Sh) (pc : Sum Str (Nat × Nat)) : Option Nat := lkF 0 S pc
/-! ### deeds -/
abbrev M (α : Type) := Sh → Option (α × Sh)
def plainB (x : Str) : Bool := x.cps.toList.all fun c => (decide (32 ≤ c) && decide (c ≤ 126)) || decide (c = 10)
def nlN (x : Str) : Nat := (Txt.count x "\n").toNat
theorem nlN_eq (x : Str) : (nlN x : Int) = Txt.count x "\n" := Int.toNat_of_nonneg (by unfold Txt.count; omega)
def putP (r : PRec) : M Nat := fun S => match lkP S r.pc with
  | some n => some (n, S)
  | none => if S.length + 2 < sizeLine then some (S.length + 1, S ++ [r]) else none
def lfR (S : Sh) (x : Str) : PRec := ⟨.inl x, x.cps.size, nlN x, 1, 0, S.length + 1, S.length + 1⟩
def leafN (x : Str) : M Nat := fun S => if plainB x = true ∧ 1 ≤ x.cps.size ∧ x.cps.size ≤ 8 then putP (lfR S x) S else none
def fkR (S : Sh) (a b : Nat) : PRec := ⟨.inr (a, b), sgT S a + sgT S b, enT S a + enT S b, lvT S a + lvT S b, 1 + max (hgT S a) (hgT S b), fiT S a, laT S b⟩
structure FkOk (S : Sh) (a b : Nat) : Prop where
  a0 : 0 < a
  a1 : a ≤ S.length
  b0 : 0 < b
  b1 : b ≤ S.length
  la : laT S a ≤ S.length
  fi : fiT S b ≤ S.length
  cl : 8 < sgT S (laT S a) + sgT S (fiT S b)
  h1 : hgT S a ≤ hgT S b + 1
  h2 : hgT S b ≤ hgT S a + 1
  sg : sgT S a + sgT S b ≤ 1000000000000000000
instance {S : Sh} {a b : Nat} : Decidable (FkOk S a b) :=
  decidable_of_iff (0 < a ∧ a ≤ S.length ∧ 0 < b ∧ b ≤ S.length ∧ laT S a ≤ S.length ∧ fiT S b ≤ S.length ∧ 8 < sgT S (laT S a) + sgT S (fiT S b) ∧ hgT S a ≤ hgT S b + 1 ∧ hgT S b ≤ hgT S a + 1 ∧ sgT S a + sgT S b ≤ 1000000000000000000)
    ⟨fun ⟨h1, h2, h3, h4, h5, h6, h7, h8, h9, h10⟩ => ⟨h1, h2, h3, h4, h5, h6, h7, h8, h9, h10⟩, fun ⟨h1, h2, h3, h4, h5, h6, h7, h8, h9, h10⟩ => ⟨h1, h2, h3, h4, h5, h6, h7, h8, h9, h10⟩⟩
def forkN (a b : Nat) : M Nat := fun S => if FkOk S a b then putP (fkR S a b) S else none
/-- a deed that goes through -/
class Does {α : Type} (m : M α) (S : Sh) (r : outParam α) (S' : outParam Sh) : Prop where
  h : m S = some (r, S')
theorem atI_cons {α : Type} {f : PRec → α} {z : α} {S : Sh} {t : Nat} (h : t ≤ S.length) : atI (z :: S.map f) (t : Int) = some (match t with | 0 => z | t + 1 => ((S[t]?).map f).getD z) := by
  unfold atI ixN
  rw [if_pos (by omega), if_pos (by simp; omega)]
  cases t with
  | zero => simp
  | succ n =>
    have hn : n < S.length := by omega
    simp [hn]
theorem atI_rd {S : Sh} {f : PRec → Nat} {t : Nat} (h : t ≤ S.length) : atI (V.int 0 :: S.map fun r => V.int (f r)) (t : Int) = some (.int (rdT S f t)) := by
  rw [atI_cons h]
  cases t with
  | zero => rfl
  | succ n =>
    have hn : n < S.length := by omega
    simp [rdT, hn]
theorem atI_sg {S : Sh} {t : Nat} (h : t ≤ S.length) : atI (V.int 0 :: S.map fun r => V.int r.sg) (t : Int) = some (.int (sgT S t)) := atI_rd h
theorem atI_en {S : Sh} {t : Nat} (h : t ≤ S.length) : atI (V.int 0 :: S.map fun r => V.int r.en) (t : Int) = some (.int (enT S t)) := atI_rd h
theorem atI_lv {S : Sh} {t : Nat} (h : t ≤ S.length) : atI (V.int 0 :: S.map fun r => V.int r.lv) (t : Int) = some (.int (lvT S t)) := atI_rd h
theorem atI_fi {S : Sh} {t : Nat} (h : t ≤ S.length) : atI (V.int 0 :: S.map fun r => V.int r.fi) (t : Int) = some (.int (fiT S t)) := atI_rd h
theorem atI_la {S : Sh} {t : Nat} (h : t ≤ S.length) : atI (V.int 0 :: S.map fun r => V.int r.la) (t : Int) = some (.int (laT S t)) := atI_rd h
theorem atI_ht {S : Sh} {t : Nat} (h : t ≤ S.length) : atI (V.int (-1) :: S.map fun r => V.int r.ht) (t : Int) = some (.int (htT S t)) := by
  rw [atI_cons h]
  cases t with
  | zero => rfl
  | succ n =>
    have hn : n < S.length := by omega
    simp [htT, rdT, hn]
theorem htT_pos {S : Sh} {t : Nat} (h : 0 < t) : htT S t = (hgT S t : Int) := by
  cases t with
  | zero => omega
  | succ n => rfl
theorem pcT_some {S : Sh} {t : Nat} (h : 0 < t) (h1 : t ≤ S.length) : ∃ r, S[t - 1]? = some r ∧ pcT S t = some r.pc := by
  cases t with
  | zero => omega
  | succ n =>
    have hn : n < S.length := by omega
    exact ⟨S[n], by simp [hn], by simp [pcT, hn]⟩
theorem rdT_app {S : Sh} {S' : Sh} {f : PRec → Nat} {t : Nat} (h : t ≤ S.length) : rdT (S ++ S') f t = rdT S f t := by
  cases t with
  | zero => rfl
  | succ n =>
    have hn : n < S.length := by omega
    simp [rdT, hn, List.getElem?_append]
theorem htT_app {S : Sh} {S' : Sh} {t : Nat} (h : t ≤ S.length) : htT (S ++ S') t = htT S t := by
  cases t with
  | zero => rfl
  | succ n => simp only [htT, hgT]; rw [rdT_app h]
theorem pcT_app {S : Sh} {S' : Sh} {t : Nat} (h : t ≤ S.length) : pcT (S ++ S') t = pcT S t := by
  cases t with
  | zero => rfl
  | succ n =>
    have hn : n < S.length := by omega
    simp [pcT, hn, List.getElem?_append]
theorem rdT_new {S : Sh} {r : PRec} {f : PRec → Nat} : rdT (S ++ [r]) f (S.length + 1) = f r := by simp [rdT]
theorem pcT_new {S : Sh} {r : PRec} : pcT (S ++ [r]) (S.length + 1) = some r.pc := by simp [pcT]
theorem htT_new {S : Sh} {r : PRec} : htT (S ++ [r]) (S.length + 1) = r.ht := by simp [htT, rdT]
end SW
end

section
set_option Elab.async false
set_option linter.all false
set_option maxRecDepth 100000
set_option maxHeartbeats 4000000
/-! Readings, a step at a time: walks, comprehensions, stores. -/
namespace SW
open PySem L2
def enmR (kl : Addr → List V → Prop) (x : V) (g1 : G) (R : Sq → G → Prop) : Prop := (∃ p xs, x = .ref p ∧ Ls kl g1 p xs ∧ R (.enm p xs) g1) ∨ ∃ z, x = .str z ∧ R (.enmS z) g1
def sixR (x y v : V) (g3 : G) (K : G → Prop) : Prop := ∃ a, x = .ref a ∧
  ((∃ xs k j, y = .int k ∧ g3 a = some (.lst xs) ∧ ixN xs.length k = some j ∧ K (gu g3 a (.lst (xs.set j v)))) ∨ ∃ g4, dPut g3 a y v g4 ∧ K g4)
def lcR (tg : TTg) (tt : TB) (e : T) (own : List Nat) (c : Cal) (σ : L2.St) (Q : VG) (S : Sq) (g1 : G) : Prop := ∀ D, g1 D = none → ∃ W : Nat → List V → G → Prop, W 0 [] (gu g1 D (.lst [])) ∧ ∀ i acc g2, W i acc g2 →
  S.ok c.kl g2 ∧ g2 D = some (.lst acc) ∧ if i < S.len then S.item i g2 fun x g3 => tg c x (wipe σ own) g3 fun σ4 g4 => wipe σ4 own = wipe σ own ∧ tt { c with er := fun _ _ _ => False } σ4 g4 fun b g5 =>
    if b = true then e { c with er := fun _ _ _ => False } σ4 g5 fun y g6 => g6 D = some (.lst acc) ∧ acc.length < sizeLine ∧ ∃ g7, Sub g7 (gu g6 D (.lst (acc ++ [y]))) ∧ W (i + 1) (acc ++ [y]) g7 else ∃ g7, Sub g7 g5 ∧ W (i + 1) acc g7
  else Q (.ref D) g2
def forR (tg : TTg) (b : TSt) (c : Cal) (D : En) (σ : L2.St) (S : Sq) (g1 : G) : Prop := ∃ W : Nat → L2.St → G → Prop, W 0 σ g1 ∧ ∀ i σ g, W i σ g →
  S.ok c.kl g ∧ if i < S.len then S.item i g fun x g3 => tg c x σ g3 fun σ4 g4 =>
    b c { D with nx := fun σ' g' => ∃ g'', Sub g'' g' ∧ W (i + 1) σ' g'', ct := fun σ' g' => ∃ g'', Sub g'' g' ∧ W (i + 1) σ' g'', bk := D.nx } σ4 g4
  else D.nx σ g
section
variable {kl : Addr → List V → Prop} {fn : Nat → SpG} {er : Nat → L2.St → G → Prop} {c : Cal} {σ σ' : L2.St} {g : G} {Q : VG} {QB : Bool → G → Prop} {QL : List V → G → Prop} {a b t : T} {x y : TB} {s u : TSt} {l : TLs} {nx : L2.St → G → Prop} {rt : VG} {bk ct : L2.St → G → Prop} {D : En} {R : Sq → G → Prop}
instance {o i e : T} : Step (sSetIx o i e c ⟨nx, rt, bk, ct⟩ σ g) (e c σ g fun v g1 => o c σ g1 fun x g2 => i c σ g2 fun y g3 => sixR x y v g3 (nx σ)) := ⟨id⟩
instance : Step (iVal a c σ g R) (a c σ g fun x g1 => wkV c.kl x g1 R) := ⟨id⟩
instance {z : Str} : Step (wkV kl (.str z) g R) (R (.str z) g) := ⟨id⟩
instance {p : Addr} {xs : List V} [e : At g p (.lst xs)] : Step (wkV kl (.ref p) g R) (R (.lst p xs) g) := ⟨fun h => .inl ⟨xs, .inl e.h, h⟩⟩
instance (priority := 1500) {p : Addr} {xs : List V} [e : At g p (.tup xs)] : Step (wkV kl (.ref p) g R) (R (.tup p xs) g) := ⟨fun h => .inr ⟨xs, e.h, h⟩⟩
instance : Step (iRng1 a c σ g R) (a c σ g fun x g1 => ∃ j : Int, x = .int j ∧ -(2 ^ 62) ≤ j ∧ j < 2 ^ 62 ∧ R (.rng 0 1 j.toNat) g1) := ⟨id⟩
instance : Step (iRng2 a b c σ g R) (a c σ g fun x g1 => b c σ g1 fun y g2 => ∃ i j : Int, x = .int i ∧ y = .int j ∧ -(2 ^ 62) ≤ i ∧ i < 2 ^ 62 ∧ -(2 ^ 62) ≤ j ∧ j < 2 ^ 62 ∧ R (.rng i 1 (j - i).toNat) g2) := ⟨id⟩
instance : Step (iRng3 a b t c σ g R) (a c σ g fun x g1 => b c σ g1 fun y g2 => t c σ g2 fun z g3 => ∃ (i j s : Int) (n : Nat), x = .int i ∧ y = .int j ∧ z = .int s ∧ RgC i j s n ∧ R (.rng i s n) g3) := ⟨id⟩
instance : Step (iEnm a c σ g R) (a c σ g fun x g1 => enmR c.kl x g1 R) := ⟨id⟩
instance {z : Str} : Step (enmR kl (.str z) g R) (R (.enmS z) g) := ⟨fun h => .inr ⟨z, rfl, h⟩⟩
instance : Step (iZip a b c σ g R) (a c σ g fun x g1 => b c σ g1 fun y g2 => ∃ p q xs ys, x = .ref p ∧ y = .ref q ∧ Ls c.kl g2 p xs ∧ Ls c.kl g2 q ys ∧ R (.zip p q xs ys) g2) := ⟨id⟩
instance {p q : Addr} {xs ys : List V} [e : At g p (.lst xs)] [e2 : At g q (.lst ys)] : Step (∃ p' q' xs ys, V.ref p = .ref p' ∧ V.ref q = .ref q' ∧ Ls kl g p' xs ∧ Ls kl g q' ys ∧ R (.zip p' q' xs ys) g) (R (.zip p q xs ys) g) := ⟨fun h => ⟨p, q, xs, ys, rfl, rfl, .inl e.h, .inl e2.h, h⟩⟩
instance {p : Addr} {xs : List V} [e : At g p (.lst xs)] : Step (enmR kl (.ref p) g R) (R (.enm p xs) g) := ⟨fun h => .inl ⟨p, xs, rfl, .inl e.h, h⟩⟩
instance {src : TI} {tg : TTg} {own : List Nat} : Step (eLc src tg x a own c σ g Q) (src c σ g fun S g1 => lcR tg x a own c σ Q S g1) := ⟨id⟩
instance {src : TI} {tg : TTg} : Step (sFor src tg s c D σ g) (src c σ g fun S g1 => forR tg s c D σ S g1) := ⟨id⟩
instance {i n : Nat} {lo st : Int} {R : V → G → Prop} : Step (Sq.item i g R (.rng lo st n)) (R (.int (lo + (i : Nat) * st)) g) := ⟨id⟩
instance {i : Nat} {p : Addr} {xs : List V} {R : V → G → Prop} : Step (Sq.item i g R (.lst p xs)) (∀ x, xs[i]? = some x → R x g) := ⟨id⟩
instance {i : Nat} {p : Addr} {xs : List V} {R : V → G → Prop} : Step (Sq.item i g R (.tup p xs)) (∀ x, xs[i]? = some x → R x g) := ⟨id⟩
instance {i : Nat} {z : Str} {R : V → G → Prop} : Step (Sq.item i g R (.str z)) (∀ c, z.cps[i]? = some c → R (.str ⟨#[c]⟩) g) := ⟨id⟩
instance {i : Nat} {p : Addr} {xs : List V} {R : V → G → Prop} : Step (Sq.item i g R (.enm p xs)) (∀ q x, xs[i]? = some x → g q = none → R (.ref q) (gu g q (.tup [.int (i : Nat), x]))) := ⟨id⟩
instance {i : Nat} {z : Str} {R : V → G → Prop} : Step (Sq.item i g R (.enmS z)) (∀ q c, z.cps[i]? = some c → g q = none → R (.ref q) (gu g q (.tup [.int (i : Nat), .str ⟨#[c]⟩]))) := ⟨id⟩
instance {i : Nat} {p q : Addr} {xs ys : List V} {R : V → G → Prop} : Step (Sq.item i g R (.zip p q xs ys)) (∀ r x y, xs[i]? = some x → ys[i]? = some y → g r = none → R (.ref r) (gu g r (.tup [x, y]))) := ⟨id⟩
theorem range_fm {α : Type} (fs : Nat → Option α) (i : Nat) : (List.range (i + 1)).filterMap fs = (List.range i).filterMap fs ++ (fs i).toList := by
  rw [List.range_succ, List.filterMap_append]
  cases h : fs i <;> simp [h]
theorem fm_len {α : Type} (fs : Nat → Option α) : ∀ i, ((List.range i).filterMap fs).length ≤ i
  | 0 => by simp
  | i + 1 => by
    rw [range_fm, List.length_append]
    have := fm_len fs i
    cases fs i <;> simp <;> omega
/-- a comprehension whose turns leave no more than garbage -/
theorem lc_of {tg : TTg} {own : List Nat} {S : Sq} (fs : Nat → Option V) (hz : S.len ≤ sizeLine) (hok : ∀ D acc, g D = none → S.ok kl (gu g D (.lst acc)))
    (st : ∀ D i, g D = none → i < S.len → ∀ (KY : V → G → Prop) (KN : G → Prop), (∀ w g6, fs i = some w → Sub (gu g D (.lst ((List.range i).filterMap fs))) g6 → KY w g6) →
      (∀ g5, fs i = none → Sub (gu g D (.lst ((List.range i).filterMap fs))) g5 → KN g5) →
      S.item i (gu g D (.lst ((List.range i).filterMap fs))) fun v g3 => tg ⟨kl, fn, er⟩ v (wipe σ own) g3 fun σ4 g4 => wipe σ4 own = wipe σ own ∧ x ⟨kl, fn, fun _ _ _ => False⟩ σ4 g4 fun b g5 => if b = true then a ⟨kl, fn, fun _ _ _ => False⟩ σ4 g5 KY else KN g5)
    (q : ∀ D, g D = none → Q (.ref D) (gu g D (.lst ((List.range S.len).filterMap fs)))) : lcR tg x a own ⟨kl, fn, er⟩ σ Q S g := by
  intro D hD
  refine ⟨fun i acc g2 => i ≤ S.len ∧ acc = (List.range i).filterMap fs ∧ g2 = gu g D (.lst acc), ⟨Nat.zero_le _, by simp, rfl⟩, ?_⟩
  rintro i acc g2 ⟨hi, rfl, rfl⟩
  refine ⟨hok D _ hD, gus, ?_⟩
  split
  · rename_i h
    refine st D i hD h _ _ (fun w g6 hw hs => ?_) (fun g5 hw hs => ?_)
    · refine ⟨hs D _ gus, Nat.lt_of_le_of_lt (fm_len fs i) (by omega), gu g D (.lst ((List.range i).filterMap fs ++ [w])), ?_, h, by rw [range_fm, hw]; rfl, rfl⟩
      intro b o hb
      unfold SW.gu at hb ⊢
      split
      · rename_i e; rw [if_pos e] at hb; exact hb
      · rename_i e
        rw [if_neg e] at hb
        exact hs b o (by rw [gun e]; exact hb)
    · exact ⟨_, hs, h, by rw [range_fm, hw]; simp, rfl⟩
  · rename_i h
    have : i = S.len := by omega
    subst this
    exact q D hD
end
theorem ifT {A B : Prop} (h : A) : if true = true then A else B := by rw [if_pos rfl]; exact h
theorem ifF {A B : Prop} (h : B) : if false = true then A else B := by rw [if_neg Bool.false_ne_true]; exact h
theorem ifD {p A B : Prop} [Decidable p] (hp : p) (h : A) : if decide p = true then A else B := by rw [decide_eq_true hp]; exact ifT h
theorem ifDn {p A B : Prop} [Decidable p] (hp : ¬ p) (h : B) : if decide p = true then A else B := by rw [decide_eq_false hp]; exact ifF h
theorem ifN {p A B : Prop} [Decidable p] (hp : ¬ p) (h : A) : if (!decide p) = true then A else B := by rw [decide_eq_false hp]; exact ifT h
theorem ifNn {p A B : Prop} [Decidable p] (hp : p) (h : B) : if (!decide p) = true then A else B := by rw [decide_eq_true hp]; exact ifF h
theorem ifB {b : Bool} {A B : Prop} (hb : b = true) (h : A) : if b = true then A else B := by rw [hb]; exact ifT h
theorem ifBn {b : Bool} {A B : Prop} (hb : b = false) (h : B) : if b = true then A else B := by rw [hb]; exact ifF h
end SW
end

section
set_option Elab.async false
set_option linter.all false
set_option maxRecDepth 100000
set_option maxHeartbeats 4000000
/-! The Shelf's methods on the objects of a shelf. -/
namespace SW
open PySem L2
set_option synthInstance.maxHeartbeats 200000
set_option synthInstance.maxSize 100000
theorem pcK_inj : ∀ {x y : Sum Str (Nat × Nat)}, pcK x = pcK y → x = y
  | .inl a, .inl b, h => by simp [pcK] at h; rw [h]
  | .inr (a, b), .inr (c, d), h => by
    simp only [pcK, List.cons.injEq, Sum.inl.injEq, and_true, true_and] at h
    obtain ⟨h1, h2⟩ := h
    have e1 : a = c := by exact_mod_cast h1
    have e2 : b = d := by exact_mod_cast h2
    rw [e1, e2]
  | .inl a, .inr (c, d), h => by simp [pcK] at h
  | .inr (a, b), .inl d, h => by simp [pcK] at h
theorem valV_shD : ∀ {S : Sh} {n : Nat} {pc : Sum Str (Nat × Nat)}, valV (shD n S) (pcK pc) = (lkF n S pc).map fun (i : Nat) => V.int i
  | [], n, pc => rfl
  | r :: S, n, pc => by
    unfold shD lkF
    by_cases e : r.pc = pc
    · rw [if_pos e, valV_pos (congrArg pcK e)]; simp
    · rw [if_neg e, valV_neg (fun z => e (pcK_inj z))]; exact valV_shD
theorem shD_app : ∀ {S : Sh} {n : Nat} {r : PRec}, shD n (S ++ [r]) = shD n S ++ [(pcK r.pc, .int ((n + S.length : Nat) + 1 : Int))]
  | [], n, r => by simp [shD]
  | q :: S, n, r => by
    rw [List.cons_append]
    unfold shD
    rw [shD_app, List.cons_append, List.length_cons]
    congr 5
    omega
theorem shD_len : ∀ {S : Sh} {n : Nat}, (shD n S).length = S.length
  | [], n => rfl
  | q :: S, n => by unfold shD; simp [shD_len]
theorem putK_shD {S : Sh} {r : PRec} (h : lkP S r.pc = none) : putK (shD 0 S) (pcK r.pc) (.int ((S.length : Int) + 1)) = shD 0 (S ++ [r]) := by
  unfold putK
  rw [valV_any, valV_shD]
  rw [show lkF 0 S r.pc = none from h]
  rw [Option.map_none, Option.isSome_none, if_neg Bool.false_ne_true, shD_app]
  simp
/-- no promise -/
def bz : Nat → SpG := fun _ _ _ _ _ => False
class ShD (defs : Nat → Option FDef) : Prop where
  h2 : defs 2 = some d_is_plain
  h4 : defs 4 = some d_ends_in
  h9 : defs 9 = some d_Shelf___init__
  h10 : defs 10 = some d_Shelf_want
  h11 : defs 11 = some d_Shelf_want_piece
  h12 : defs 12 = some d_Shelf_many
  h13 : defs 13 = some d_Shelf_piece
  h14 : defs 14 = some d_Shelf_signs
  h15 : defs 15 = some d_Shelf_ends
  h16 : defs 16 = some d_Shelf_leaves
  h17 : defs 17 = some d_Shelf_height
  h18 : defs 18 = some d_Shelf_first_leaf
  h19 : defs 19 = some d_Shelf_last_leaf
  h20 : defs 20 = some d_Shelf_laid
  h21 : defs 21 = some d_Shelf_leaf
  h22 : defs 22 = some d_Shelf_fork
  h23 : defs 23 = some d_Shelf_is_loose
section
variable {kl : Addr → List V → Prop} {bs : Nat → SpG} {defs : Nat → Option FDef} {k : Nat} {g : G} {Q : VG} {E : XG} [hd : ShD defs] {a a1 a2 a3 a4 a5 a6 a7 a8 : Addr} {S : Sh} {ts : List Addr}
theorem z_want {vs : List V} {r : List (Nat × V)} [h0 : At g a (.ins 0 ((0, .ref a1) :: r))] [h1 : At g a1 (.lst vs)] {t : Nat} (ht : t < vs.length) (q : Q .non g) : Gam kl bs defs (k + 1) 10 [.ref a, .int t] g Q E := by
  refine gam_of hd.h10 rfl ?_
  show b_Shelf_want _ _ [some (.ref a), some (.int t)] _
  unfold b_Shelf_want
  repeat refine go ?_
  rw [decide_eq_true (show (0 : Int) ≤ (t : Int) by omega)]
  repeat refine go ?_
  rw [decide_eq_true (show (t : Int) < (vs.length : Int) by omega)]
  repeat refine go ?_
  exact ⟨g, Sub.refl g, q⟩
theorem z_want_piece {vs : List V} {r : List (Nat × V)} [h0 : At g a (.ins 0 ((0, .ref a1) :: r))] [h1 : At g a1 (.lst vs)] {t : Nat} (h0' : 0 < t) (ht : t < vs.length) (q : Q .non g) : Gam kl bs defs (k + 1) 11 [.ref a, .int t] g Q E := by
  refine gam_of hd.h11 rfl ?_
  show b_Shelf_want_piece _ _ [some (.ref a), some (.int t)] _
  unfold b_Shelf_want_piece
  repeat refine go ?_
  rw [decide_eq_true (show (0 : Int) < (t : Int) by omega)]
  repeat refine go ?_
  rw [decide_eq_true (show (t : Int) < (vs.length : Int) by omega)]
  repeat refine go ?_
  exact ⟨g, Sub.refl g, q⟩
theorem z_many {vs : List V} {r : List (Nat × V)} [h0 : At g a (.ins 0 ((0, .ref a1) :: r))] [h1 : At g a1 (.lst vs)] (q : Q (.int ((vs.length : Int) - 1)) g) : Gam kl bs defs (k + 1) 12 [.ref a] g Q E := by
  refine gam_of hd.h12 rfl ?_
  show b_Shelf_many _ _ [some (.ref a)] _
  unfold b_Shelf_many
  repeat refine go ?_
  exact ⟨g, Sub.refl g, q⟩
theorem z_signs {vs ws : List V} {v : V} [h0 : At g a (.ins 0 [(0, .ref a1), (1, .ref a2), (2, .ref a3), (3, .ref a4), (4, .ref a5), (5, .ref a6), (6, .ref a7), (7, .ref a8)])] [h1 : At g a1 (.lst vs)] [h3 : At g a3 (.lst ws)] {t : Nat} (ht : t < vs.length) (hv : atI ws (t : Int) = some v) (q : Q v g) : Gam kl bs defs (k + 2) 14 [.ref a, .int t] g Q E := by
  refine gam_of hd.h14 rfl ?_
  show b_Shelf_signs _ _ [some (.ref a), some (.int t)] _
  unfold b_Shelf_signs
  repeat refine go ?_
  refine z_want ht ?_
  repeat refine go ?_
  exact ⟨v, hv, g, Sub.refl g, q⟩
theorem z_ends {vs ws : List V} {v : V} [h0 : At g a (.ins 0 [(0, .ref a1), (1, .ref a2), (2, .ref a3), (3, .ref a4), (4, .ref a5), (5, .ref a6), (6, .ref a7), (7, .ref a8)])] [h1 : At g a1 (.lst vs)] [h3 : At g a4 (.lst ws)] {t : Nat} (ht : t < vs.length) (hv : atI ws (t : Int) = some v) (q : Q v g) : Gam kl bs defs (k + 2) 15 [.ref a, .int t] g Q E := by
  refine gam_of hd.h15 rfl ?_
  show b_Shelf_ends _ _ [some (.ref a), some (.int t)] _
  unfold b_Shelf_ends
  repeat refine go ?_
  refine z_want ht ?_
  repeat refine go ?_
  exact ⟨v, hv, g, Sub.refl g, q⟩
theorem z_leaves {vs ws : List V} {v : V} [h0 : At g a (.ins 0 [(0, .ref a1), (1, .ref a2), (2, .ref a3), (3, .ref a4), (4, .ref a5), (5, .ref a6), (6, .ref a7), (7, .ref a8)])] [h1 : At g a1 (.lst vs)] [h3 : At g a5 (.lst ws)] {t : Nat} (ht : t < vs.length) (hv : atI ws (t : Int) = some v) (q : Q v g) : Gam kl bs defs (k + 2) 16 [.ref a, .int t] g Q E := by
  refine gam_of hd.h16 rfl ?_
  show b_Shelf_leaves _ _ [some (.ref a), some (.int t)] _
  unfold b_Shelf_leaves
  repeat refine go ?_
  refine z_want ht ?_
  repeat refine go ?_
  exact ⟨v, hv, g, Sub.refl g, q⟩
theorem z_height {vs ws : List V} {v : V} [h0 : At g a (.ins 0 [(0, .ref a1), (1, .ref a2), (2, .ref a3), (3, .ref a4), (4, .ref a5), (5, .ref a6), (6, .ref a7), (7, .ref a8)])] [h1 : At g a1 (.lst vs)] [h3 : At g a6 (.lst ws)] {t : Nat} (ht : t < vs.length) (hv : atI ws (t : Int) = some v) (q : Q v g) : Gam kl bs defs (k + 2) 17 [.ref a, .int t] g Q E := by
  refine gam_of hd.h17 rfl ?_
  show b_Shelf_height _ _ [some (.ref a), some (.int t)] _
  unfold b_Shelf_height
  repeat refine go ?_
  refine z_want ht ?_
  repeat refine go ?_
  exact ⟨v, hv, g, Sub.refl g, q⟩
theorem z_first_leaf {vs ws : List V} {v : V} [h0 : At g a (.ins 0 [(0, .ref a1), (1, .ref a2), (2, .ref a3), (3, .ref a4), (4, .ref a5), (5, .ref a6), (6, .ref a7), (7, .ref a8)])] [h1 : At g a1 (.lst vs)] [h3 : At g a7 (.lst ws)] {t : Nat} (ht : t < vs.length) (hv : atI ws (t : Int) = some v) (q : Q v g) : Gam kl bs defs (k + 2) 18 [.ref a, .int t] g Q E := by
  refine gam_of hd.h18 rfl ?_
  show b_Shelf_first_leaf _ _ [some (.ref a), some (.int t)] _
  unfold b_Shelf_first_leaf
  repeat refine go ?_
  refine z_want ht ?_
  repeat refine go ?_
  exact ⟨v, hv, g, Sub.refl g, q⟩
theorem z_last_leaf {vs ws : List V} {v : V} [h0 : At g a (.ins 0 [(0, .ref a1), (1, .ref a2), (2, .ref a3), (3, .ref a4), (4, .ref a5), (5, .ref a6), (6, .ref a7), (7, .ref a8)])] [h1 : At g a1 (.lst vs)] [h3 : At g a8 (.lst ws)] {t : Nat} (ht : t < vs.length) (hv : atI ws (t : Int) = some v) (q : Q v g) : Gam kl bs defs (k + 2) 19 [.ref a, .int t] g Q E := by
  refine gam_of hd.h19 rfl ?_
  show b_Shelf_last_leaf _ _ [some (.ref a), some (.int t)] _
  unfold b_Shelf_last_leaf
  repeat refine go ?_
  refine z_want ht ?_
  repeat refine go ?_
  exact ⟨v, hv, g, Sub.refl g, q⟩
theorem z_piece {vs : List V} {v : V} {r : List (Nat × V)} [h0 : At g a (.ins 0 ((0, .ref a1) :: r))] [h1 : At g a1 (.lst vs)] {t : Nat} (h0' : 0 < t) (ht : t < vs.length) (hv : atI vs (t : Int) = some v) (q : Q v g) : Gam kl bs defs (k + 2) 13 [.ref a, .int t] g Q E := by
  refine gam_of hd.h13 rfl ?_
  show b_Shelf_piece _ _ [some (.ref a), some (.int t)] _
  unfold b_Shelf_piece
  repeat refine go ?_
  refine z_want_piece h0' ht ?_
  repeat refine go ?_
  exact ⟨v, hv, g, Sub.refl g, q⟩
theorem z_is_loose {ws us vs : List V} {i j : Nat} {x y : Int} {s t : Nat} [h0 : At g a (.ins 0 [(0, .ref a1), (1, .ref a2), (2, .ref a3), (3, .ref a4), (4, .ref a5), (5, .ref a6), (6, .ref a7), (7, .ref a8)])] [h3 : At g a3 (.lst ws)] [h7 : At g a7 (.lst us)] [h8 : At g a8 (.lst vs)]
    (e1 : atI vs (s : Int) = some (.int i)) (e2 : atI ws (i : Int) = some (.int x)) (e3 : atI us (t : Int) = some (.int j)) (e4 : atI ws (j : Int) = some (.int y)) (q : Q (.bl (decide (x + y ≤ 8))) g) : Gam kl bs defs (k + 1) 23 [.ref a, .int s, .int t] g Q E := by
  refine gam_of hd.h23 rfl ?_
  show b_Shelf_is_loose _ _ [some (.ref a), some (.int s), some (.int t)] _
  unfold b_Shelf_is_loose
  repeat refine go ?_
  refine ⟨_, e1, ?_⟩
  repeat refine go ?_
  refine ⟨_, e2, ?_⟩
  repeat refine go ?_
  refine ⟨_, e3, ?_⟩
  repeat refine go ?_
  refine ⟨_, e4, ?_⟩
  repeat refine go ?_
  exact ⟨g, Sub.refl g, q⟩
end
end SW
end

section
set_option Elab.async false
set_option linter.all false
set_option maxRecDepth 100000
set_option maxHeartbeats 4000000
/-! The Shelf's methods that lay pieces. -/
namespace SW
open PySem L2
set_option synthInstance.maxHeartbeats 200000
set_option synthInstance.maxSize 100000
theorem cps_sp : (" " : Str) = ⟨#[32]⟩ := by kernel_rfl
theorem cps_ti : ("~" : Str) = ⟨#[126]⟩ := by kernel_rfl
theorem cps_nl : ("\n" : Str) = ⟨#[10]⟩ := by kernel_rfl
theorem lt1 {a b : Nat} : decide ([a] < [b]) = decide (a < b) := by
  refine decide_eq_decide.mpr ?_
  constructor
  · intro h
    cases h with
    | rel h => exact h
    | cons h => cases h
  · exact fun h => .rel h
theorem fm_take {α β : Type} (xs : List α) (f : α → β) : ∀ i, i ≤ xs.length → (List.range i).filterMap (fun i => (xs[i]?).map f) = (xs.take i).map f
  | 0, _ => by simp
  | i + 1, h => by
    rw [range_fm, fm_take xs f i (by omega), List.take_add_one, List.map_append]
    have hi : i < xs.length := by omega
    simp [hi]
theorem fm_all {α β : Type} (xs : List α) (f : α → β) {n : Nat} (h : n = xs.length) : (List.range n).filterMap (fun i => (xs[i]?).map f) = xs.map f := by
  rw [fm_take xs f n (by omega), h, List.take_length]
section
variable {kl : Addr → List V → Prop} {bs : Nat → SpG} {defs : Nat → Option FDef} {k : Nat} {g : G} {Q : VG} {E : XG} {a a1 a2 a3 a4 a5 a6 a7 a8 : Addr} {S : Sh} {ts : List Addr}
def pl1 (c : Nat) : Bool := (decide (32 ≤ c) && decide (c ≤ 126)) || decide (c = 10)
theorem z_is_plain' (h2 : defs 2 = some d_is_plain) {x : Str} (hl : x.cps.size ≤ sizeLine) (q : Q (.bl (plainB x)) g) : Gam kl bs defs (k + 1) 2 [.str x] g Q E := by
  refine gam_of h2 rfl ?_
  show b_is_plain _ _ [some (.str x), none] _
  unfold b_is_plain
  repeat refine go ?_
  refine lc_of (fun i => (x.cps.toList[i]?).map fun c => V.bl (pl1 c)) hl (fun _ _ _ => trivial) (fun D i hD hi KY KN hy hn => ?_) (fun D hD => ?_)
  · intro c hc
    have hc' : x.cps.toList[i]? = some c := by rw [Array.getElem?_toList]; exact hc
    show (gN 1) _ _ [some (.str x), none] _ _
    repeat refine go ?_
    refine ⟨rfl, ?_⟩
    repeat refine go ?_
    have e1 : (!decide (({ cps := #[c] } : Str).cps.toList < (Str.ofString " ").cps.toList)) = decide (32 ≤ c) := by
      rw [show (Str.ofString " ") = ⟨#[32]⟩ from cps_sp, lt1, Bool.eq_iff_iff]; simp
    have e2 : (!decide ((Str.ofString "~").cps.toList < ({ cps := #[c] } : Str).cps.toList)) = decide (c ≤ 126) := by
      rw [show (Str.ofString "~") = ⟨#[126]⟩ from cps_ti, lt1, Bool.eq_iff_iff]; simp
    have e3 : decide (({ cps := #[c] } : Str) = Str.ofString "\n") = decide (c = 10) := by
      rw [show (Str.ofString "\n") = ⟨#[10]⟩ from cps_nl]; simp
    have fin : ∀ b, b = pl1 c → KY (.bl b) (gu g D (O.lst ((List.range i).filterMap fun i => (x.cps.toList[i]?).map fun c => V.bl (pl1 c)))) := fun b hb => hy _ _ (by rw [hc', hb]; rfl) (Sub.refl _)
    rw [e1]
    by_cases c1 : 32 ≤ c
    · rw [decide_eq_true c1]
      repeat refine go ?_
      rw [e2]
      by_cases c2 : c ≤ 126
      · rw [decide_eq_true c2]
        repeat refine go ?_
        exact fin _ (by simp [pl1, c1, c2])
      · rw [decide_eq_false c2]
        repeat refine go ?_
        rw [e3]
        exact fin _ (by simp [pl1, c1, c2])
    · rw [decide_eq_false c1]
      repeat refine go ?_
      rw [e3]
      exact fin _ (by simp [pl1, c1])
  · have e : (List.range (Sq.str x).len).filterMap (fun i => (x.cps.toList[i]?).map fun c => V.bl (pl1 c)) = (x.cps.toList.map pl1).map V.bl := by
      rw [fm_all x.cps.toList _ (by simp [Sq.len]), List.map_map]; rfl
    rw [e]
    repeat refine go ?_
    refine ⟨D, x.cps.toList.map pl1, rfl, .inl gus, ?_⟩
    refine ⟨g, Sub.new hD, ?_⟩
    have : (x.cps.toList.map pl1).all id = plainB x := by rw [List.all_map]; rfl
    rw [this]
    exact q
variable [hd : ShD defs]
theorem z_is_plain {x : Str} (hl : x.cps.size ≤ sizeLine) (q : Q (.bl (plainB x)) g) : Gam kl bs defs (k + 1) 2 [.str x] g Q E := z_is_plain' hd.h2 hl q
theorem z_ends_in {x : Str} (q : Q (.int (nlN x)) g) : Gam kl bs defs (k + 1) 4 [.str x] g Q E := by
  refine gam_of hd.h4 rfl ?_
  show b_ends_in _ _ [some (.str x)] _
  unfold b_ends_in
  repeat refine go ?_
  rw [nlN_eq] at q
  exact ⟨g, Sub.refl g, q⟩
/-- nine objects -/
class Dis (a a1 a2 a3 a4 a5 a6 a7 a8 : Addr) : Prop where
  h01 : NeA a a1
  h02 : NeA a a2
  h03 : NeA a a3
  h04 : NeA a a4
  h05 : NeA a a5
  h06 : NeA a a6
  h07 : NeA a a7
  h08 : NeA a a8
  h10 : NeA a1 a
  h12 : NeA a1 a2
  h13 : NeA a1 a3
  h14 : NeA a1 a4
  h15 : NeA a1 a5
  h16 : NeA a1 a6
  h17 : NeA a1 a7
  h18 : NeA a1 a8
  h20 : NeA a2 a
  h21 : NeA a2 a1
  h23 : NeA a2 a3
  h24 : NeA a2 a4
  h25 : NeA a2 a5
  h26 : NeA a2 a6
  h27 : NeA a2 a7
  h28 : NeA a2 a8
  h30 : NeA a3 a
  h31 : NeA a3 a1
  h32 : NeA a3 a2
  h34 : NeA a3 a4
  h35 : NeA a3 a5
  h36 : NeA a3 a6
  h37 : NeA a3 a7
  h38 : NeA a3 a8
  h40 : NeA a4 a
  h41 : NeA a4 a1
  h42 : NeA a4 a2
  h43 : NeA a4 a3
  h45 : NeA a4 a5
  h46 : NeA a4 a6
  h47 : NeA a4 a7
  h48 : NeA a4 a8
  h50 : NeA a5 a
  h51 : NeA a5 a1
  h52 : NeA a5 a2
  h53 : NeA a5 a3
  h54 : NeA a5 a4
  h56 : NeA a5 a6
  h57 : NeA a5 a7
  h58 : NeA a5 a8
  h60 : NeA a6 a
  h61 : NeA a6 a1
  h62 : NeA a6 a2
  h63 : NeA a6 a3
  h64 : NeA a6 a4
  h65 : NeA a6 a5
  h67 : NeA a6 a7
  h68 : NeA a6 a8
  h70 : NeA a7 a
  h71 : NeA a7 a1
  h72 : NeA a7 a2
  h73 : NeA a7 a3
  h74 : NeA a7 a4
  h75 : NeA a7 a5
  h76 : NeA a7 a6
  h78 : NeA a7 a8
  h80 : NeA a8 a
  h81 : NeA a8 a1
  h82 : NeA a8 a2
  h83 : NeA a8 a3
  h84 : NeA a8 a4
  h85 : NeA a8 a5
  h86 : NeA a8 a6
  h87 : NeA a8 a7
section
variable {p : Addr} {vs w3 w4 w5 w6 w7 w8 : List V} {r : PRec}
theorem z_laid (dd : Dis a a1 a2 a3 a4 a5 a6 a7 a8) [h0 : At g a (.ins 0 [(0, .ref a1), (1, .ref a2), (2, .ref a3), (3, .ref a4), (4, .ref a5), (5, .ref a6), (6, .ref a7), (7, .ref a8)])] [h1 : At g a1 (.lst vs)] [h2 : At g a2 (.dT (shD 0 S))] [h3 : At g a3 (.lst w3)] [h4 : At g a4 (.lst w4)] [h5 : At g a5 (.lst w5)] [h6 : At g a6 (.lst w6)] [hp : At g p (.tup ((pcK r.pc).map kV))] {x3 x4 x5 x6 : V}
    (l1 : vs.length = S.length + 1) (l3 : w3.length = S.length + 1) (l4 : w4.length = S.length + 1) (l5 : w5.length = S.length + 1) (l6 : w6.length = S.length + 1) (hz : S.length + 2 < sizeLine) (hn : lkP S r.pc = none)
    (q : Q (.int ((S.length : Int) + 1)) (gu (gu (gu (gu (gu (gu g a1 (.lst (vs ++ [.ref p]))) a2 (.dT (shD 0 (S ++ [r])))) a3 (.lst (w3 ++ [x3]))) a4 (.lst (w4 ++ [x4]))) a5 (.lst (w5 ++ [x5]))) a6 (.lst (w6 ++ [x6])))) :
    Gam kl bs defs (k + 1) 20 [.ref a, .ref p, x3, x4, x5, x6] g Q E := by
  haveI n_a_a1 : NeA a a1 := dd.h01
  haveI n_a_a2 : NeA a a2 := dd.h02
  haveI n_a_a3 : NeA a a3 := dd.h03
  haveI n_a_a4 : NeA a a4 := dd.h04
  haveI n_a_a5 : NeA a a5 := dd.h05
  haveI n_a_a6 : NeA a a6 := dd.h06
  haveI n_a_a7 : NeA a a7 := dd.h07
  haveI n_a_a8 : NeA a a8 := dd.h08
  haveI n_a1_a : NeA a1 a := dd.h10
  haveI n_a1_a2 : NeA a1 a2 := dd.h12
  haveI n_a1_a3 : NeA a1 a3 := dd.h13
  haveI n_a1_a4 : NeA a1 a4 := dd.h14
  haveI n_a1_a5 : NeA a1 a5 := dd.h15
  haveI n_a1_a6 : NeA a1 a6 := dd.h16
  haveI n_a1_a7 : NeA a1 a7 := dd.h17
  haveI n_a1_a8 : NeA a1 a8 := dd.h18
  haveI n_a2_a : NeA a2 a := dd.h20
  haveI n_a2_a1 : NeA a2 a1 := dd.h21
  haveI n_a2_a3 : NeA a2 a3 := dd.h23
  haveI n_a2_a4 : NeA a2 a4 := dd.h24
  haveI n_a2_a5 : NeA a2 a5 := dd.h25
  haveI n_a2_a6 : NeA a2 a6 := dd.h26
  haveI n_a2_a7 : NeA a2 a7 := dd.h27
  haveI n_a2_a8 : NeA a2 a8 := dd.h28
  haveI n_a3_a : NeA a3 a := dd.h30
  haveI n_a3_a1 : NeA a3 a1 := dd.h31
  haveI n_a3_a2 : NeA a3 a2 := dd.h32
  haveI n_a3_a4 : NeA a3 a4 := dd.h34
  haveI n_a3_a5 : NeA a3 a5 := dd.h35
  haveI n_a3_a6 : NeA a3 a6 := dd.h36
  haveI n_a3_a7 : NeA a3 a7 := dd.h37
  haveI n_a3_a8 : NeA a3 a8 := dd.h38
  haveI n_a4_a : NeA a4 a := dd.h40
  haveI n_a4_a1 : NeA a4 a1 := dd.h41
  haveI n_a4_a2 : NeA a4 a2 := dd.h42
  haveI n_a4_a3 : NeA a4 a3 := dd.h43
  haveI n_a4_a5 : NeA a4 a5 := dd.h45
  haveI n_a4_a6 : NeA a4 a6 := dd.h46
  haveI n_a4_a7 : NeA a4 a7 := dd.h47
  haveI n_a4_a8 : NeA a4 a8 := dd.h48
  haveI n_a5_a : NeA a5 a := dd.h50
  haveI n_a5_a1 : NeA a5 a1 := dd.h51
  haveI n_a5_a2 : NeA a5 a2 := dd.h52
  haveI n_a5_a3 : NeA a5 a3 := dd.h53
  haveI n_a5_a4 : NeA a5 a4 := dd.h54
  haveI n_a5_a6 : NeA a5 a6 := dd.h56
  haveI n_a5_a7 : NeA a5 a7 := dd.h57
  haveI n_a5_a8 : NeA a5 a8 := dd.h58
  haveI n_a6_a : NeA a6 a := dd.h60
  haveI n_a6_a1 : NeA a6 a1 := dd.h61
  haveI n_a6_a2 : NeA a6 a2 := dd.h62
  haveI n_a6_a3 : NeA a6 a3 := dd.h63
  haveI n_a6_a4 : NeA a6 a4 := dd.h64
  haveI n_a6_a5 : NeA a6 a5 := dd.h65
  haveI n_a6_a7 : NeA a6 a7 := dd.h67
  haveI n_a6_a8 : NeA a6 a8 := dd.h68
  haveI n_a7_a : NeA a7 a := dd.h70
  haveI n_a7_a1 : NeA a7 a1 := dd.h71
  haveI n_a7_a2 : NeA a7 a2 := dd.h72
  haveI n_a7_a3 : NeA a7 a3 := dd.h73
  haveI n_a7_a4 : NeA a7 a4 := dd.h74
  haveI n_a7_a5 : NeA a7 a5 := dd.h75
  haveI n_a7_a6 : NeA a7 a6 := dd.h76
  haveI n_a7_a8 : NeA a7 a8 := dd.h78
  haveI n_a8_a : NeA a8 a := dd.h80
  haveI n_a8_a1 : NeA a8 a1 := dd.h81
  haveI n_a8_a2 : NeA a8 a2 := dd.h82
  haveI n_a8_a3 : NeA a8 a3 := dd.h83
  haveI n_a8_a4 : NeA a8 a4 := dd.h84
  haveI n_a8_a5 : NeA a8 a5 := dd.h85
  haveI n_a8_a6 : NeA a8 a6 := dd.h86
  haveI n_a8_a7 : NeA a8 a7 := dd.h87
  haveI np1 : NeA a1 p := NeA.of_at h1 hp (fun z => nomatch z)
  haveI np2 : NeA p a1 := NeA.symm np1
  refine gam_of hd.h20 rfl ?_
  show b_Shelf_laid _ _ [some (.ref a), some (.ref p), some x3, some x4, some x5, some x6, none] _
  unfold b_Shelf_laid
  repeat refine go ?_
  refine ⟨by omega, ?_⟩
  repeat refine go ?_
  refine ⟨a2, rfl, .inr ⟨_, .inr ⟨_, pcK r.pc, p, At.h, rfl, At.h, by rw [shD_len]; omega, rfl⟩, ?_⟩⟩
  have e : ((vs.length : Int)) = (S.length : Int) + 1 := by omega
  rw [e, putK_shD hn]
  repeat refine go ?_
  refine ⟨by omega, ?_⟩
  repeat refine go ?_
  refine ⟨by omega, ?_⟩
  repeat refine go ?_
  refine ⟨by omega, ?_⟩
  repeat refine go ?_
  refine ⟨by omega, ?_⟩
  repeat refine go ?_
  exact ⟨_, Sub.refl _, q⟩
end
end
end SW
end

section
set_option Elab.async false
set_option linter.all false
set_option maxRecDepth 100000
set_option maxHeartbeats 4000000
/-! Shelf.leaf, Shelf.fork, Shelf(). -/
namespace SW
open PySem L2
local macro_rules | `(tactic| walk_at "w") => `(tactic| repeat first | refine go ?_ | refine ifT ?_ | refine ifF ?_ | refine And.intro (by omega) ?_ | refine ifD (by omega) ?_ | refine ifDn (by omega) ?_ | refine ifN (by omega) ?_ | refine ifNn (by omega) ?_ | refine And.intro (by simp [sizeLine] <;> omega) ?_ | fail)
set_option synthInstance.maxHeartbeats 200000
set_option synthInstance.maxSize 100000
/-- a shelf's objects, open -/
structure Un (g : G) (a : Addr) (l : ShL) (ts : List Addr) (S : Sh) : Prop where
  len : ts.length = S.length
  tu : ∀ (i : Nat) (t : Addr) (r : PRec), ts[i]? = some t → S[i]? = some r → g t = some (.tup ((pcK r.pc).map kV))
  o0 : g a = some (.ins 0 l.fs)
  o1 : g l.a1 = some (.lst (.non :: ts.map V.ref))
  o2 : g l.a2 = some (.dT (shD 0 S))
  o3 : g l.a3 = some (.lst (.int 0 :: S.map fun r => .int r.sg))
  o4 : g l.a4 = some (.lst (.int 0 :: S.map fun r => .int r.en))
  o5 : g l.a5 = some (.lst (.int 0 :: S.map fun r => .int r.lv))
  o6 : g l.a6 = some (.lst (.int (-1) :: S.map fun r => .int r.ht))
  o7 : g l.a7 = some (.lst (.int 0 :: S.map fun r => .int r.fi))
  o8 : g l.a8 = some (.lst (.int 0 :: S.map fun r => .int r.la))
def Keep (g gX : G) (a : Addr) (l : ShL) : Prop := ∀ b o, b ≠ a → b ∉ l.all → g b = some o → gX b = some o
section
variable {g g' : G} {a p : Addr} {l : ShL} {ts : List Addr} {S : Sh} {r : PRec}
theorem inT {kl : Addr → List V → Prop} {a2 : Addr} {pc : Sum Str (Nat × Nat)} {QB : Bool → G → Prop} [h2 : At g a2 (.dT (shD 0 S))] (hp : g p = some (.tup ((pcK pc).map kV))) (q : QB (lkP S pc).isSome g) : cmpV kl .In (.ref p) (.ref a2) g QB :=
  Or.inl ⟨_, .inr ⟨_, pcK pc, p, h2.h, rfl, hp, rfl⟩, by rw [valV_shD, Option.isSome_map]; exact q⟩
theorem ixT {kl : Addr → List V → Prop} {a2 : Addr} {pc : Sum Str (Nat × Nat)} {Q : VG} {n : Nat} [h2 : At g a2 (.dT (shD 0 S))] (hp : g p = some (.tup ((pcK pc).map kV))) (hn : lkP S pc = some n) (q : Q (.int n) g) : ixV kl (.ref a2) (.ref p) g Q :=
  Or.inr ⟨_, .inr ⟨_, pcK pc, p, h2.h, rfl, hp, by rw [valV_shD, show lkF 0 S pc = some n from hn]; rfl⟩, q⟩
/-- the heap behind a new piece -/
def laidG (g : G) (l : ShL) (p : Addr) (S : Sh) (r : PRec) (ts : List Addr) : G :=
  gu (gu (gu (gu (gu (gu (gu (gu g l.a1 (.lst ((.non :: ts.map V.ref) ++ [.ref p]))) l.a2 (.dT (shD 0 (S ++ [r])))) l.a3 (.lst ((.int 0 :: S.map fun r => .int r.sg) ++ [.int r.sg]))) l.a4 (.lst ((.int 0 :: S.map fun r => .int r.en) ++ [.int r.en])))
    l.a5 (.lst ((.int 0 :: S.map fun r => .int r.lv) ++ [.int r.lv]))) l.a6 (.lst ((.int (-1) :: S.map fun r => .int r.ht) ++ [.int r.ht]))) l.a7 (.lst ((.int 0 :: S.map fun r => .int r.fi) ++ [.int r.fi]))) l.a8 (.lst ((.int 0 :: S.map fun r => .int r.la) ++ [.int r.la]))
abbrev DisL (a : Addr) (l : ShL) : Prop := Dis a l.a1 l.a2 l.a3 l.a4 l.a5 l.a6 l.a7 l.a8
theorem laid_un (dd : DisL a l) (u : Un g a l ts S) (hp : g p = some (.tup ((pcK r.pc).map kV))) : Un (laidG g l p S r ts) a l (ts ++ [p]) (S ++ [r]) := by
  obtain ⟨a1, a2, a3, a4, a5, a6, a7, a8⟩ := l
  have hne : ∀ b xs, g b = some (.tup xs) → laidG g ⟨a1, a2, a3, a4, a5, a6, a7, a8⟩ p S r ts b = some (.tup xs) := fun b xs hb => by
    have n : ∀ c o, g c = some o → (∀ ys, o ≠ .tup ys) → b ≠ c := fun c o hc ho e => by subst e; rw [hb] at hc; cases hc; exact ho _ rfl
    unfold laidG
    rw [gun (n _ _ u.o8 fun _ z => nomatch z), gun (n _ _ u.o7 fun _ z => nomatch z), gun (n _ _ u.o6 fun _ z => nomatch z), gun (n _ _ u.o5 fun _ z => nomatch z), gun (n _ _ u.o4 fun _ z => nomatch z), gun (n _ _ u.o3 fun _ z => nomatch z), gun (n _ _ u.o2 fun _ z => nomatch z), gun (n _ _ u.o1 fun _ z => nomatch z)]
    exact hb
  refine ⟨by simp [u.len], fun i t q h1 h2 => ?_, ?_, ?_, ?_, ?_, ?_, ?_, ?_, ?_, ?_⟩
  · by_cases hi : i < ts.length
    · rw [List.getElem?_append_left hi] at h1
      rw [List.getElem?_append_left (by rw [← u.len]; exact hi)] at h2
      exact hne _ _ (u.tu i t q h1 h2)
    · have hi' : i = ts.length := by
        have := (List.getElem?_eq_some_iff.mp h1).1
        simp at this; omega
      subst hi'
      simp at h1
      rw [u.len] at h2
      simp at h2
      subst h1 h2
      exact hne _ _ hp
  all_goals unfold laidG
  · rw [gun dd.h08.h, gun dd.h07.h, gun dd.h06.h, gun dd.h05.h, gun dd.h04.h, gun dd.h03.h, gun dd.h02.h, gun dd.h01.h]; exact u.o0
  · rw [gun dd.h18.h, gun dd.h17.h, gun dd.h16.h, gun dd.h15.h, gun dd.h14.h, gun dd.h13.h, gun dd.h12.h, gus]; simp
  · rw [gun dd.h28.h, gun dd.h27.h, gun dd.h26.h, gun dd.h25.h, gun dd.h24.h, gun dd.h23.h, gus]
  · rw [gun dd.h38.h, gun dd.h37.h, gun dd.h36.h, gun dd.h35.h, gun dd.h34.h, gus]; simp
  · rw [gun dd.h48.h, gun dd.h47.h, gun dd.h46.h, gun dd.h45.h, gus]; simp
  · rw [gun dd.h58.h, gun dd.h57.h, gun dd.h56.h, gus]; simp
  · rw [gun dd.h68.h, gun dd.h67.h, gus]; simp
  · rw [gun dd.h78.h, gus]; simp
  · rw [gus]; simp
theorem laid_keep : Keep g (laidG g l p S r ts) a l := fun b o h1 h2 h3 => by
  simp only [ShL.all, List.mem_cons, List.not_mem_nil, or_false, not_or] at h2
  obtain ⟨n1, n2, n3, n4, n5, n6, n7, n8⟩ := h2
  unfold laidG
  rw [gun n8, gun n7, gun n6, gun n5, gun n4, gun n3, gun n2, gun n1]
  exact h3
theorem Un.new {o : O} (u : Un g a l ts S) (h : g p = none) : Un (gu g p o) a l ts S := by
  have s : ∀ b q, g b = some q → gu g p o b = some q := fun b q hb => Sub.new h b q hb
  exact ⟨u.len, fun i t r h1 h2 => s _ _ (u.tu i t r h1 h2), s _ _ u.o0, s _ _ u.o1, s _ _ u.o2, s _ _ u.o3, s _ _ u.o4, s _ _ u.o5, s _ _ u.o6, s _ _ u.o7, s _ _ u.o8⟩
theorem Keep.new {o : O} (h : g p = none) : Keep g (gu g p o) a l := fun b q _ _ hb => Sub.new h b q hb
theorem Keep.trans {g1 g2 g3 : G} (h : Keep g1 g2 a l) (k : Keep g2 g3 a l) : Keep g1 g3 a l := fun b o h1 h2 h3 => k b o h1 h2 (h b o h1 h2 h3)
end
section
variable {kl : Addr → List V → Prop} {bs : Nat → SpG} {defs : Nat → Option FDef} {k : Nat} {g : G} {Q : VG} {E : XG} [hd : ShD defs] {a : Addr} {l : ShL} {S S' : Sh} {ts : List Addr}
theorem z_leaf (dd : DisL a l) (u : Un g a l ts S) {x : Str} {n : Nat} (h : leafN x S = some (n, S'))
    (q : ∀ gX ts', Un gX a l ts' S' → Keep g gX a l → Q (.int n) gX) : Gam kl bs defs (k + 2) 21 [.ref a, .str x] g Q E := by
  obtain ⟨a1, a2, a3, a4, a5, a6, a7, a8⟩ := l
  unfold leafN at h
  split at h
  rotate_left
  · cases h
  rename_i hx
  obtain ⟨hp, hx1, hx8⟩ := hx
  replace dd : Dis a a1 a2 a3 a4 a5 a6 a7 a8 := dd
  haveI : NeA a a1 := dd.h01
  haveI : NeA a a2 := dd.h02
  haveI : NeA a a3 := dd.h03
  haveI : NeA a a4 := dd.h04
  haveI : NeA a a5 := dd.h05
  haveI : NeA a a6 := dd.h06
  haveI : NeA a a7 := dd.h07
  haveI : NeA a a8 := dd.h08
  haveI : NeA a7 a1 := dd.h71
  haveI : NeA a7 a2 := dd.h72
  haveI : NeA a7 a3 := dd.h73
  haveI : NeA a7 a4 := dd.h74
  haveI : NeA a7 a5 := dd.h75
  haveI : NeA a7 a6 := dd.h76
  haveI : NeA a8 a1 := dd.h81
  haveI : NeA a8 a2 := dd.h82
  haveI : NeA a8 a3 := dd.h83
  haveI : NeA a8 a4 := dd.h84
  haveI : NeA a8 a5 := dd.h85
  haveI : NeA a8 a6 := dd.h86
  haveI : NeA a8 a7 := dd.h87
  haveI i0 : At g a (.ins 0 [(0, .ref a1), (1, .ref a2), (2, .ref a3), (3, .ref a4), (4, .ref a5), (5, .ref a6), (6, .ref a7), (7, .ref a8)]) := ⟨u.o0⟩
  haveI i1 : At g a1 (.lst (.non :: ts.map V.ref)) := ⟨u.o1⟩
  haveI i2 : At g a2 (.dT (shD 0 S)) := ⟨u.o2⟩
  haveI i3 : At g a3 (.lst (.int 0 :: S.map fun r => .int r.sg)) := ⟨u.o3⟩
  haveI i4 : At g a4 (.lst (.int 0 :: S.map fun r => .int r.en)) := ⟨u.o4⟩
  haveI i5 : At g a5 (.lst (.int 0 :: S.map fun r => .int r.lv)) := ⟨u.o5⟩
  haveI i6 : At g a6 (.lst (.int (-1) :: S.map fun r => .int r.ht)) := ⟨u.o6⟩
  haveI i7 : At g a7 (.lst (.int 0 :: S.map fun r => .int r.fi)) := ⟨u.o7⟩
  haveI i8 : At g a8 (.lst (.int 0 :: S.map fun r => .int r.la)) := ⟨u.o8⟩
  refine gam_of hd.h21 rfl ?_
  show b_Shelf_leaf _ _ [some (.ref a), some (.str x), none, none] _
  unfold b_Shelf_leaf
  walk_at "w"
  have hs : sizeLine = 16777216 := rfl
  have hxl : x.length = x.cps.size := rfl
  refine z_is_plain (by omega) ?_
  rw [hp]
  walk_at "w"
  intro p hpn
  haveI f1 : Fr g p := ⟨hpn⟩
  haveI ip : At (gu g p (.tup [.str "leaf", .str x])) p (.tup ((pcK (.inl x)).map kV)) := ⟨gus⟩
  walk_at "w"
  unfold putP at h
  refine inT (S := S) (a2 := a2) ip.h ?_
  split at h
  · rename_i m hm
    rw [show lkP S (Sum.inl x) = some m from hm, Option.isSome_some]
    cases h
    walk_at "w"
    refine ixT ip.h hm ?_
    exact ⟨g, Sub.new hpn, q _ _ u fun _ _ _ _ h => h⟩
  · rename_i hm
    rw [show lkP S (Sum.inl x) = none from hm, Option.isSome_none]
    split at h
    rotate_left
    · cases h
    rename_i hz
    cases h
    walk_at "w"
    refine z_ends_in ?_
    walk_at "w"
    refine z_laid (r := lfR S x) (p := p) dd (l1 := by simp [u.len]) (l3 := by simp) (l4 := by simp) (l5 := by simp) (l6 := by simp) (hz := hz) (hn := hm) (hp := ip) ?_
    walk_at "w"
    have u1 := laid_un (r := lfR S x) (p := p) dd (u.new (o := .tup [.str "leaf", .str x]) hpn) gus
    have k1 : Keep g (laidG (gu g p (.tup [.str "leaf", .str x])) ⟨a1, a2, a3, a4, a5, a6, a7, a8⟩ p S (lfR S x) ts) a ⟨a1, a2, a3, a4, a5, a6, a7, a8⟩ := (Keep.new hpn).trans laid_keep
    refine ⟨_, Sub.refl _, ?_⟩
    exact q _ _ u1 k1
end
end SW
end

section
set_option Elab.async false
set_option linter.all false
set_option maxRecDepth 100000
set_option maxHeartbeats 4000000
/-! Shelf.fork, Shelf(). -/
namespace SW
open PySem L2
local macro_rules | `(tactic| walk_at "w") => `(tactic| repeat first | refine go ?_ | refine ifT ?_ | refine ifF ?_ | refine And.intro (by omega) ?_ | refine ifD (by omega) ?_ | refine ifDn (by omega) ?_ | refine ifN (by omega) ?_ | refine ifNn (by omega) ?_ | refine And.intro (by simp [sizeLine, atOf] <;> omega) ?_ | fail)
set_option synthInstance.maxHeartbeats 200000
set_option synthInstance.maxSize 100000
section
variable {kl : Addr → List V → Prop} {bs : Nat → SpG} {defs : Nat → Option FDef} {k : Nat} {g : G} {Q : VG} {E : XG} [hd : ShD defs] {a : Addr} {l : ShL} {S S' : Sh} {ts : List Addr}
theorem max2 {kl : Addr → List V → Prop} {g : G} {Q : VG} {p : Addr} {x y : Int} [h : At g p (.lst [.int x, .int y])] (q : Q (.int (max x y)) g) : biV kl .max [.ref p] g Q := by
  refine ⟨[x, y], .inl h.h, by simp, fun m hm hy => ?_⟩
  have e : m = max x y := by
    have h1 := hy x (by simp)
    have h2 := hy y (by simp)
    simp at hm
    omega
  rw [e]; exact q
theorem min2 {kl : Addr → List V → Prop} {g : G} {Q : VG} {p : Addr} {x y : Int} [h : At g p (.lst [.int x, .int y])] (q : Q (.int (min x y)) g) : biV kl .min [.ref p] g Q := by
  refine ⟨[x, y], .inl h.h, by simp, fun m hm hy => ?_⟩
  have e : m = min x y := by
    have h1 := hy x (by simp)
    have h2 := hy y (by simp)
    simp at hm
    omega
  rw [e]; exact q
instance {kl : Addr → List V → Prop} {g : G} {Q : VG} {p : Addr} {x y : Int} [h : At g p (.lst [.int x, .int y])] : Step (biV kl .max [.ref p] g Q) (Q (.int (max x y)) g) := ⟨max2⟩
instance {kl : Addr → List V → Prop} {g : G} {Q : VG} {p : Addr} {x y : Int} [h : At g p (.lst [.int x, .int y])] : Step (biV kl .min [.ref p] g Q) (Q (.int (min x y)) g) := ⟨min2⟩
theorem atV {xs : List V} {i : Int} {v : V} {K : V → Prop} (h : atI xs i = some v) (q : K v) : ∃ v, atI xs i = some v ∧ K v := ⟨v, h, q⟩
theorem z_fork (dd : DisL a l) (u : Un g a l ts S) {s t n : Nat} (h : forkN s t S = some (n, S'))
    (q : ∀ gX ts', Un gX a l ts' S' → Keep g gX a l → Q (.int n) gX) : Gam kl bs defs (k + 2) 22 [.ref a, .int s, .int t] g Q E := by
  obtain ⟨a1, a2, a3, a4, a5, a6, a7, a8⟩ := l
  unfold forkN at h
  split at h
  rotate_left
  · cases h
  rename_i hx
  obtain ⟨b1, b2, b3, b4, b5, b6, b7, b8, b9, b10⟩ := hx
  replace dd : Dis a a1 a2 a3 a4 a5 a6 a7 a8 := dd
  haveI : NeA a a1 := dd.h01
  haveI : NeA a a2 := dd.h02
  haveI : NeA a a3 := dd.h03
  haveI : NeA a a4 := dd.h04
  haveI : NeA a a5 := dd.h05
  haveI : NeA a a6 := dd.h06
  haveI : NeA a a7 := dd.h07
  haveI : NeA a a8 := dd.h08
  haveI : NeA a7 a1 := dd.h71
  haveI : NeA a7 a2 := dd.h72
  haveI : NeA a7 a3 := dd.h73
  haveI : NeA a7 a4 := dd.h74
  haveI : NeA a7 a5 := dd.h75
  haveI : NeA a7 a6 := dd.h76
  haveI : NeA a8 a1 := dd.h81
  haveI : NeA a8 a2 := dd.h82
  haveI : NeA a8 a3 := dd.h83
  haveI : NeA a8 a4 := dd.h84
  haveI : NeA a8 a5 := dd.h85
  haveI : NeA a8 a6 := dd.h86
  haveI : NeA a8 a7 := dd.h87
  haveI i0 : At g a (.ins 0 [(0, .ref a1), (1, .ref a2), (2, .ref a3), (3, .ref a4), (4, .ref a5), (5, .ref a6), (6, .ref a7), (7, .ref a8)]) := ⟨u.o0⟩
  haveI i1 : At g a1 (.lst (.non :: ts.map V.ref)) := ⟨u.o1⟩
  haveI i2 : At g a2 (.dT (shD 0 S)) := ⟨u.o2⟩
  haveI i3 : At g a3 (.lst (.int 0 :: S.map fun r => .int r.sg)) := ⟨u.o3⟩
  haveI i4 : At g a4 (.lst (.int 0 :: S.map fun r => .int r.en)) := ⟨u.o4⟩
  haveI i5 : At g a5 (.lst (.int 0 :: S.map fun r => .int r.lv)) := ⟨u.o5⟩
  haveI i6 : At g a6 (.lst (.int (-1) :: S.map fun r => .int r.ht)) := ⟨u.o6⟩
  haveI i7 : At g a7 (.lst (.int 0 :: S.map fun r => .int r.fi)) := ⟨u.o7⟩
  haveI i8 : At g a8 (.lst (.int 0 :: S.map fun r => .int r.la)) := ⟨u.o8⟩
  refine gam_of hd.h22 rfl ?_
  show b_Shelf_fork _ _ [some (.ref a), some (.int s), some (.int t), none, none, none, none, none, none] _
  unfold b_Shelf_fork
  have hs : sizeLine = 16777216 := rfl
  walk_at "w"
  refine z_want_piece b1 (by simp [u.len]; omega) ?_
  walk_at "w"
  refine z_want_piece b3 (by simp [u.len]; omega) ?_
  walk_at "w"
  refine z_is_loose (atI_la b2) (atI_sg b5) (atI_fi b4) (atI_sg b6) ?_
  walk_at "w"
  refine atV (atI_ht b2) ?_
  walk_at "w"
  refine atV (atI_ht b4) ?_
  walk_at "w"
  intro p hp
  haveI f1 : Fr g p := ⟨hp⟩
  haveI : NeA a p := NeA.of_fr i0 f1
  haveI : NeA a3 p := NeA.of_fr i3 f1
  rw [htT_pos b1, htT_pos b3]
  walk_at "w"
  refine atV (atI_sg b2) ?_
  walk_at "w"
  refine atV (atI_sg b4) ?_
  walk_at "w"
  intro p2 hp2
  haveI f2 : Fr (gu g p (.lst [.int (hgT S s), .int (hgT S t)])) p2 := ⟨hp2⟩
  haveI ip : At (gu (gu g p (.lst [.int (hgT S s), .int (hgT S t)])) p2 (.tup [.str "fork", .int s, .int t])) p2 (.tup ((pcK (.inr (s, t))).map kV)) := ⟨gus⟩
  walk_at "w"
  unfold putP at h
  refine inT (S := S) (a2 := a2) ip.h ?_
  split at h
  · rename_i m hm
    rw [show lkP S (Sum.inr (s, t)) = some m from hm, Option.isSome_some]
    cases h
    walk_at "w"
    refine ixT ip.h hm ?_
    exact ⟨g, (Sub.new hp).trans (Sub.new hp2), q _ _ u fun _ _ _ _ h => h⟩
  · rename_i hm
    rw [show lkP S (Sum.inr (s, t)) = none from hm, Option.isSome_none]
    split at h
    rotate_left
    · cases h
    rename_i hz
    cases h
    walk_at "w"
    refine atV (atI_en b2) ?_
    walk_at "w"
    refine atV (atI_en b4) ?_
    walk_at "w"
    refine atV (atI_lv b2) ?_
    walk_at "w"
    refine atV (atI_lv b4) ?_
    walk_at "w"
    refine z_laid (r := fkR S s t) (p := p2) dd (l1 := by simp [u.len]) (l3 := by simp) (l4 := by simp) (l5 := by simp) (l6 := by simp) (hz := hz) (hn := hm) (hp := ip) ?_
    walk_at "w"
    refine atV (atI_fi b2) ?_
    walk_at "w"
    refine atV (atI_la b4) ?_
    walk_at "w"
    have u1 := laid_un (r := fkR S s t) (p := p2) dd ((u.new (o := .lst [.int (hgT S s), .int (hgT S t)]) hp).new (o := .tup [.str "fork", .int s, .int t]) hp2) gus
    have k1 : Keep g (laidG (gu (gu g p (.lst [.int (hgT S s), .int (hgT S t)])) p2 (.tup [.str "fork", .int s, .int t])) ⟨a1, a2, a3, a4, a5, a6, a7, a8⟩ p2 S (fkR S s t) ts) a ⟨a1, a2, a3, a4, a5, a6, a7, a8⟩ := ((Keep.new hp).trans (Keep.new hp2)).trans laid_keep
    have c1 : ((fkR S s t).sg : Int) = (sgT S s : Int) + sgT S t := by simp [fkR]
    have c2 : ((fkR S s t).en : Int) = (enT S s : Int) + enT S t := by simp [fkR]
    have c3 : ((fkR S s t).lv : Int) = (lvT S s : Int) + lvT S t := by simp [fkR]
    have c4 : ((fkR S s t).ht : Int) = 1 + max (hgT S s : Int) (hgT S t : Int) := by simp only [fkR]; omega
    unfold laidG at u1 k1
    rw [c1, c2, c3, c4] at u1 k1
    refine ⟨_, Sub.refl _, ?_⟩
    exact q _ _ u1 k1
theorem of_fr' {g : G} {a b : Addr} {o : O} (f : Fr g b) [s : At g a o] : NeA a b := NeA.of_fr s f
theorem z_init [h0 : At g a (.ins 0 [])] (q : ∀ l gX, DisL a l → (∀ b ∈ l.all, g b = none) → Un gX a l [] [] → Keep g gX a l → Q .non gX) : Gam kl bs defs (k + 1) 9 [.ref a] g Q E := by
  refine gam_of hd.h9 rfl ?_
  show b_Shelf___init__ _ _ [some (.ref a)] _
  unfold b_Shelf___init__
  walk_at "w"
  intro p1 f1
  replace f1 : Fr _ p1 := ⟨f1⟩
  haveI n01 : NeA a p1 := of_fr' f1
  haveI n10 : NeA p1 a := n01.symm
  walk_at "w"
  refine Or.inr ?_
  intro p2 f2
  replace f2 : Fr _ p2 := ⟨f2⟩
  haveI n02 : NeA a p2 := of_fr' f2
  haveI n20 : NeA p2 a := n02.symm
  haveI n12 : NeA p1 p2 := of_fr' f2
  haveI n21 : NeA p2 p1 := n12.symm
  walk_at "w"
  intro p3 f3
  replace f3 : Fr _ p3 := ⟨f3⟩
  haveI n03 : NeA a p3 := of_fr' f3
  haveI n30 : NeA p3 a := n03.symm
  haveI n13 : NeA p1 p3 := of_fr' f3
  haveI n31 : NeA p3 p1 := n13.symm
  haveI n23 : NeA p2 p3 := of_fr' f3
  haveI n32 : NeA p3 p2 := n23.symm
  walk_at "w"
  intro p4 f4
  replace f4 : Fr _ p4 := ⟨f4⟩
  haveI n04 : NeA a p4 := of_fr' f4
  haveI n40 : NeA p4 a := n04.symm
  haveI n14 : NeA p1 p4 := of_fr' f4
  haveI n41 : NeA p4 p1 := n14.symm
  haveI n24 : NeA p2 p4 := of_fr' f4
  haveI n42 : NeA p4 p2 := n24.symm
  haveI n34 : NeA p3 p4 := of_fr' f4
  haveI n43 : NeA p4 p3 := n34.symm
  walk_at "w"
  intro p5 f5
  replace f5 : Fr _ p5 := ⟨f5⟩
  haveI n05 : NeA a p5 := of_fr' f5
  haveI n50 : NeA p5 a := n05.symm
  haveI n15 : NeA p1 p5 := of_fr' f5
  haveI n51 : NeA p5 p1 := n15.symm
  haveI n25 : NeA p2 p5 := of_fr' f5
  haveI n52 : NeA p5 p2 := n25.symm
  haveI n35 : NeA p3 p5 := of_fr' f5
  haveI n53 : NeA p5 p3 := n35.symm
  haveI n45 : NeA p4 p5 := of_fr' f5
  haveI n54 : NeA p5 p4 := n45.symm
  walk_at "w"
  intro p6 f6
  replace f6 : Fr _ p6 := ⟨f6⟩
  haveI n06 : NeA a p6 := of_fr' f6
  haveI n60 : NeA p6 a := n06.symm
  haveI n16 : NeA p1 p6 := of_fr' f6
  haveI n61 : NeA p6 p1 := n16.symm
  haveI n26 : NeA p2 p6 := of_fr' f6
  haveI n62 : NeA p6 p2 := n26.symm
  haveI n36 : NeA p3 p6 := of_fr' f6
  haveI n63 : NeA p6 p3 := n36.symm
  haveI n46 : NeA p4 p6 := of_fr' f6
  haveI n64 : NeA p6 p4 := n46.symm
  haveI n56 : NeA p5 p6 := of_fr' f6
  haveI n65 : NeA p6 p5 := n56.symm
  walk_at "w"
  intro p7 f7
  replace f7 : Fr _ p7 := ⟨f7⟩
  haveI n07 : NeA a p7 := of_fr' f7
  haveI n70 : NeA p7 a := n07.symm
  haveI n17 : NeA p1 p7 := of_fr' f7
  haveI n71 : NeA p7 p1 := n17.symm
  haveI n27 : NeA p2 p7 := of_fr' f7
  haveI n72 : NeA p7 p2 := n27.symm
  haveI n37 : NeA p3 p7 := of_fr' f7
  haveI n73 : NeA p7 p3 := n37.symm
  haveI n47 : NeA p4 p7 := of_fr' f7
  haveI n74 : NeA p7 p4 := n47.symm
  haveI n57 : NeA p5 p7 := of_fr' f7
  haveI n75 : NeA p7 p5 := n57.symm
  haveI n67 : NeA p6 p7 := of_fr' f7
  haveI n76 : NeA p7 p6 := n67.symm
  walk_at "w"
  intro p8 f8
  replace f8 : Fr _ p8 := ⟨f8⟩
  haveI n08 : NeA a p8 := of_fr' f8
  haveI n80 : NeA p8 a := n08.symm
  haveI n18 : NeA p1 p8 := of_fr' f8
  haveI n81 : NeA p8 p1 := n18.symm
  haveI n28 : NeA p2 p8 := of_fr' f8
  haveI n82 : NeA p8 p2 := n28.symm
  haveI n38 : NeA p3 p8 := of_fr' f8
  haveI n83 : NeA p8 p3 := n38.symm
  haveI n48 : NeA p4 p8 := of_fr' f8
  haveI n84 : NeA p8 p4 := n48.symm
  haveI n58 : NeA p5 p8 := of_fr' f8
  haveI n85 : NeA p8 p5 := n58.symm
  haveI n68 : NeA p6 p8 := of_fr' f8
  haveI n86 : NeA p8 p6 := n68.symm
  haveI n78 : NeA p7 p8 := of_fr' f8
  haveI n87 : NeA p8 p7 := n78.symm
  walk_at "w"
  refine ⟨_, Sub.refl _, ?_⟩
  refine q ⟨p1, p2, p3, p4, p5, p6, p7, p8⟩ _ ⟨n01, n02, n03, n04, n05, n06, n07, n08, n10, n12, n13, n14, n15, n16, n17, n18, n20, n21, n23, n24, n25, n26, n27, n28, n30, n31, n32, n34, n35, n36, n37, n38, n40, n41, n42, n43, n45, n46, n47, n48, n50, n51, n52, n53, n54, n56, n57, n58, n60, n61, n62, n63, n64, n65, n67, n68, n70, n71, n72, n73, n74, n75, n76, n78, n80, n81, n82, n83, n84, n85, n86, n87⟩ ?_ ?_ ?_
  · intro b hb
    simp only [ShL.all, List.mem_cons, List.not_mem_nil, or_false] at hb
    have fg : ∀ {g : G} {a b : Addr} {o : O}, Fr (gu g a o) b → Fr g b := fun f => f.of_gu
    rcases hb with rfl | rfl | rfl | rfl | rfl | rfl | rfl | rfl
    · exact f1.h
    · exact (fg (fg f2)).h
    · exact (fg (fg (fg (fg f3)))).h
    · exact (fg (fg (fg (fg (fg (fg f4)))))).h
    · exact (fg (fg (fg (fg (fg (fg (fg (fg f5)))))))).h
    · exact (fg (fg (fg (fg (fg (fg (fg (fg (fg (fg f6)))))))))).h
    · exact (fg (fg (fg (fg (fg (fg (fg (fg (fg (fg (fg (fg f7)))))))))))).h
    · exact (fg (fg (fg (fg (fg (fg (fg (fg (fg (fg (fg (fg (fg (fg f8)))))))))))))).h
  · exact ⟨rfl, fun i t r h _ => by simp at h, At.h, At.h, At.h, At.h, At.h, At.h, At.h, At.h, At.h⟩
  · intro b o h1 h2 h3
    simp only [ShL.all, List.mem_cons, List.not_mem_nil, or_false, not_or] at h2
    obtain ⟨m1, m2, m3, m4, m5, m6, m7, m8⟩ := h2
    rw [gun h1, gun m8, gun h1, gun m7, gun h1, gun m6, gun h1, gun m5, gun h1, gun m4, gun h1, gun m3, gun h1, gun m2, gun h1, gun m1]
    exact h3
end
end SW
end

section
set_option Elab.async false
set_option linter.all false
set_option maxRecDepth 100000
set_option maxHeartbeats 4000000
/-! A shelf as one cell: its methods as primitives. -/
namespace SW
open PySem PySem.Spec PyProof.Rows L2
inductive PrimOk : Nat → List V → G → VG → Prop
  | init {a : Addr} {g : G} {Q : VG} : g a = some (.ins 0 []) → Q .non (gu g a (.shf [])) → PrimOk 9 [.ref a] g Q
  | many {a : Addr} {g : G} {Q : VG} {S : Sh} : g a = some (.shf S) → Q (.int S.length) g → PrimOk 12 [.ref a] g Q
  | piece {a : Addr} {g : G} {Q : VG} {S : Sh} {t : Nat} {pc : Sum Str (Nat × Nat)} : g a = some (.shf S) → pcT S t = some pc →
      (∀ p, (g p = none ∨ g p = some (.tup ((pcK pc).map kV))) → Q (.ref p) (gu g p (.tup ((pcK pc).map kV)))) → PrimOk 13 [.ref a, .int t] g Q
  | signs {a : Addr} {g : G} {Q : VG} {S : Sh} {t : Nat} : g a = some (.shf S) → t ≤ S.length → Q (.int (sgT S t)) g → PrimOk 14 [.ref a, .int t] g Q
  | ends {a : Addr} {g : G} {Q : VG} {S : Sh} {t : Nat} : g a = some (.shf S) → t ≤ S.length → Q (.int (enT S t)) g → PrimOk 15 [.ref a, .int t] g Q
  | leaves {a : Addr} {g : G} {Q : VG} {S : Sh} {t : Nat} : g a = some (.shf S) → t ≤ S.length → Q (.int (lvT S t)) g → PrimOk 16 [.ref a, .int t] g Q
  | height {a : Addr} {g : G} {Q : VG} {S : Sh} {t : Nat} : g a = some (.shf S) → t ≤ S.length → Q (.int (htT S t)) g → PrimOk 17 [.ref a, .int t] g Q
  | first {a : Addr} {g : G} {Q : VG} {S : Sh} {t : Nat} : g a = some (.shf S) → t ≤ S.length → Q (.int (fiT S t)) g → PrimOk 18 [.ref a, .int t] g Q
  | last {a : Addr} {g : G} {Q : VG} {S : Sh} {t : Nat} : g a = some (.shf S) → t ≤ S.length → Q (.int (laT S t)) g → PrimOk 19 [.ref a, .int t] g Q
  | leaf {a : Addr} {g : G} {Q : VG} {S S' : Sh} {x : Str} {n : Nat} : g a = some (.shf S) → leafN x S = some (n, S') → Q (.int n) (gu g a (.shf S')) → PrimOk 21 [.ref a, .str x] g Q
  | fork {a : Addr} {g : G} {Q : VG} {S S' : Sh} {s t n : Nat} : g a = some (.shf S) → forkN s t S = some (n, S') → Q (.int n) (gu g a (.shf S')) → PrimOk 22 [.ref a, .int s, .int t] g Q
  | loose {a : Addr} {g : G} {Q : VG} {S : Sh} {s t : Nat} : g a = some (.shf S) → s ≤ S.length → t ≤ S.length → laT S s ≤ S.length → fiT S t ≤ S.length →
      Q (.bl (decide (sgT S (laT S s) + sgT S (fiT S t) ≤ 8))) g → PrimOk 23 [.ref a, .int s, .int t] g Q
def bsP (f : Nat) (vs : List V) (g : G) (Q : VG) (_ : XG) : Prop := PrimOk f vs g Q
/-- an object of the hand layer as one of the abstract heap -/
def toO : HO → Option O
  | .lst xs => some (.lst xs)
  | .tup xs => some (.tup xs)
  | .dT kvs => some (.dT kvs)
  | _ => none
section
variable {P : Prm} {own : Own} {g gX : G} {H : Hp} {a : Addr} {S : Sh} {l : ShL} {ts : List Addr}
def openG (g : G) (H : Hp) (a : Addr) (l : ShL) (ts : List Addr) : G := fun b => if b = a then some (.ins 0 l.fs) else if b ∈ l.all ∨ (b ∈ ts ∧ g b = none) then (H b).bind toO else g b
theorem toO_ok {P : Prm} {own : Own} {H : Hp} {b : Addr} {o : O} (h : (H b).bind toO = some o) : OkAt P own H b o := by
  cases e : H b with
  | none => rw [e] at h; cases h
  | some u =>
    rw [e, Option.bind_some] at h
    cases u <;> (first | (cases h; done) | (cases h; exact e))
theorem ShObj.cls {l : ShL} (ob : ShObj H l ts S) {b : Addr} (hb : b ∈ l.all) : (∃ xs, H b = some (.lst xs)) ∨ ∃ kvs, H b = some (.dT kvs) := by
  simp only [ShL.all, List.mem_cons, List.not_mem_nil, or_false] at hb
  rcases hb with rfl | rfl | rfl | rfl | rfl | rfl | rfl | rfl
  · exact .inl ⟨_, ob.o1⟩
  · exact .inr ⟨_, ob.o2⟩
  · exact .inl ⟨_, ob.o3⟩
  · exact .inl ⟨_, ob.o4⟩
  · exact .inl ⟨_, ob.o5⟩
  · exact .inl ⟨_, ob.o6⟩
  · exact .inl ⟨_, ob.o7⟩
  · exact .inl ⟨_, ob.o8⟩
theorem open_shelf (A : Ab P g H) (e : g a = some (.shf S)) : ∃ l ts gU, Ab P gU H ∧ DisL a l ∧ Un gU a l ts S ∧ ∀ b o, b ≠ a → g b = some o → b ∉ l.all ∧ gU b = some o := by
  obtain ⟨own, A⟩ := A
  obtain ⟨ha, sh⟩ := A.at_ _ _ e
  obtain ⟨C, dx, l, ts, hc, hH, ho, nd, ob⟩ := sh.ex
  have hal : a ∉ l.all := fun h => by rcases ob.cls h with ⟨xs, z⟩ | ⟨xs, z⟩ <;> rw [hH] at z <;> cases z
  have hla : ∀ b o, g b = some o → b ∉ l.all := fun b o h1 h2 => by
    have := (A.at_ _ _ h1).1
    rw [ho b h2] at this; cases this
  have hU1 : openG g H a l ts a = some (.ins 0 l.fs) := by unfold openG; rw [if_pos rfl]
  have hU2 : ∀ b, b ∈ l.all → openG g H a l ts b = (H b).bind toO := fun b hb => by
    have hba : b ≠ a := fun z => hal (z ▸ hb)
    unfold openG
    rw [if_neg hba, if_pos (.inl hb)]
  have hU3 : ∀ b o, b ≠ a → g b = some o → openG g H a l ts b = some o := fun b o h1 h2 => by
    unfold openG
    rw [if_neg h1, if_neg, h2]
    rintro (h | ⟨_, h⟩)
    · exact hla b o h2 h
    · rw [h2] at h; cases h
  have htu : ∀ (i : Nat) (t : Addr) (r : PRec), ts[i]? = some t → S[i]? = some r → openG g H a l ts t = some (.tup ((pcK r.pc).map kV)) := fun i t r h1 h2 => by
    have ht := ob.tu i t r h1 h2
    have hta : t ≠ a := fun z => by rw [z, hH] at ht; cases ht
    cases hg : g t with
    | none =>
      unfold openG
      rw [if_neg hta, if_pos (.inr ⟨List.mem_of_getElem? h1, hg⟩), ht]
      rfl
    | some o =>
      rw [hU3 t o hta hg]
      have := (A.at_ _ _ hg).2
      cases o with
      | lst xs => rw [show H t = _ from this] at ht; cases ht
      | tup xs => rw [show H t = _ from this] at ht; cases ht; rfl
      | dK xs => rw [show H t = _ from this] at ht; cases ht
      | dT xs => rw [show H t = _ from this] at ht; cases ht
      | ins c fs => obtain ⟨C, dx, _, h, _⟩ := this; rw [h] at ht; cases ht
      | shf S => obtain ⟨C, dx, _, _, _, h, _⟩ := this.ex; rw [h] at ht; cases ht
  have m1 : ∀ b ∈ l.all, b ≠ a := fun b hb z => hal (z ▸ hb)
  refine ⟨l, ts, openG g H a l ts, ⟨fun b => if own b = some a then none else own b, fun b o hb => ?_, fun b c hb => ?_, A.kl⟩, ?_, ⟨ob.len, htu, hU1, ?_, ?_, ?_, ?_, ?_, ?_, ?_, ?_⟩, fun b o h1 h2 => ⟨hla b o h2, hU3 b o h1 h2⟩⟩
  · by_cases h1 : b = a
    · subst h1
      rw [hU1] at hb; cases hb
      refine ⟨by rw [ha]; simp, C, dx, hc, hH, ?_⟩
      intro p hp
      simp only [ShL.fs, List.mem_cons, List.not_mem_nil, or_false] at hp
      rcases hp with rfl | rfl | rfl | rfl | rfl | rfl | rfl | rfl <;> simp [atOf]
    · by_cases h2 : b ∈ l.all ∨ (b ∈ ts ∧ g b = none)
      · have h3 : (H b).bind toO = some o := by unfold openG at hb; rw [if_neg h1, if_pos h2] at hb; exact hb
        refine ⟨?_, toO_ok h3⟩
        split
        · rfl
        · rename_i h4
          rcases h2 with h2 | ⟨h2, h5⟩
          · exact absurd (ho b h2) h4
          · obtain ⟨i, hi⟩ := List.getElem?_of_mem h2
            have hl : i < S.length := by rw [← ob.len]; exact (List.getElem?_eq_some_iff.mp hi).1
            have ht := ob.tu i _ _ hi (List.getElem?_eq_getElem hl)
            cases q : own b with
            | none => rfl
            | some z => rcases A.live _ _ q with ⟨_, z⟩ | ⟨_, z⟩ <;> rw [ht] at z <;> cases z
      · have h3 : g b = some o := by unfold openG at hb; rw [if_neg h1, if_neg h2] at hb; exact hb
        obtain ⟨h4, h5⟩ := A.at_ _ _ h3
        refine ⟨by rw [h4]; simp, ?_⟩
        cases o with
        | lst xs => exact h5
        | tup xs => exact h5
        | dK xs => exact h5
        | dT xs => exact h5
        | ins c fs => exact h5
        | shf S2 =>
          obtain ⟨C2, dx2, l2, ts2, c1, c2, c3, c4, c5⟩ := h5.ex
          refine ⟨C2, dx2, l2, ts2, c1, c2, fun d hd => ?_, c4, c5⟩
          rw [c3 d hd, if_neg]
          intro z; cases z; exact h1 rfl
  · split at hb
    · cases hb
    · exact A.live _ _ hb
  · simp only [ShL.all, List.mem_cons, List.not_mem_nil, or_false, not_or] at hal
    obtain ⟨x1, x2, x3, x4, x5, x6, x7, x8⟩ := hal
    simp only [ShL.all, List.nodup_cons, List.mem_cons, List.not_mem_nil, or_false, not_or, not_false_eq_true, List.nodup_nil, and_true] at nd
    obtain ⟨⟨a12, a13, a14, a15, a16, a17, a18⟩, ⟨a23, a24, a25, a26, a27, a28⟩, ⟨a34, a35, a36, a37, a38⟩, ⟨a45, a46, a47, a48⟩, ⟨a56, a57, a58⟩, ⟨a67, a68⟩, a78⟩ := nd
    have y1 := Ne.symm x1
    constructor <;> constructor <;> (first | assumption | (apply Ne.symm; assumption))
  all_goals rw [hU2 _ (by simp [ShL.all])]
  · rw [ob.o1]; rfl
  · rw [ob.o2]; rfl
  · rw [ob.o3]; rfl
  · rw [ob.o4]; rfl
  · rw [ob.o5]; rfl
  · rw [ob.o6]; rfl
  · rw [ob.o7]; rfl
  · rw [ob.o8]; rfl
def foldG (gX : G) (a : Addr) (l : ShL) (S : Sh) : G := fun b => if b = a then some (.shf S) else if b ∈ l.all then none else gX b
theorem fold_shelf (A : Ab P gX H) (dd : DisL a l) (u : Un gX a l ts S) : Ab P (foldG gX a l S) H := by
  obtain ⟨own, A⟩ := A
  have hal : ∀ b, b ∈ l.all → own b = none ∧ ((∃ xs, H b = some (.lst xs)) ∨ ∃ kvs, H b = some (.dT kvs)) := by
    intro b hb
    simp only [ShL.all, List.mem_cons, List.not_mem_nil, or_false] at hb
    rcases hb with rfl | rfl | rfl | rfl | rfl | rfl | rfl | rfl
    · exact ⟨(A.at_ _ _ u.o1).1, .inl ⟨_, (A.at_ _ _ u.o1).2⟩⟩
    · exact ⟨(A.at_ _ _ u.o2).1, .inr ⟨_, (A.at_ _ _ u.o2).2⟩⟩
    · exact ⟨(A.at_ _ _ u.o3).1, .inl ⟨_, (A.at_ _ _ u.o3).2⟩⟩
    · exact ⟨(A.at_ _ _ u.o4).1, .inl ⟨_, (A.at_ _ _ u.o4).2⟩⟩
    · exact ⟨(A.at_ _ _ u.o5).1, .inl ⟨_, (A.at_ _ _ u.o5).2⟩⟩
    · exact ⟨(A.at_ _ _ u.o6).1, .inl ⟨_, (A.at_ _ _ u.o6).2⟩⟩
    · exact ⟨(A.at_ _ _ u.o7).1, .inl ⟨_, (A.at_ _ _ u.o7).2⟩⟩
    · exact ⟨(A.at_ _ _ u.o8).1, .inl ⟨_, (A.at_ _ _ u.o8).2⟩⟩
  obtain ⟨ha, C, dx, hc, hH, _⟩ := A.at_ _ _ u.o0
  have han : a ∉ l.all := by
    simp only [ShL.all, List.mem_cons, List.not_mem_nil, or_false, not_or]
    exact ⟨dd.h01.h, dd.h02.h, dd.h03.h, dd.h04.h, dd.h05.h, dd.h06.h, dd.h07.h, dd.h08.h⟩
  refine ⟨fun b => if b ∈ l.all then some a else own b, fun b o hb => ?_, fun b c hb => ?_, A.kl⟩
  · unfold foldG at hb
    by_cases h1 : b = a
    · subst h1
      rw [if_pos rfl] at hb; cases hb
      refine ⟨by rw [if_neg han]; exact ha, ⟨C, dx, l, ts, hc, hH, fun d hd => if_pos hd, ?_, ?_⟩⟩
      · simp only [ShL.all, List.nodup_cons, List.mem_cons, List.not_mem_nil, or_false, not_or, not_false_eq_true, List.nodup_nil, and_true]
        exact ⟨⟨dd.h12.h, dd.h13.h, dd.h14.h, dd.h15.h, dd.h16.h, dd.h17.h, dd.h18.h⟩, ⟨dd.h23.h, dd.h24.h, dd.h25.h, dd.h26.h, dd.h27.h, dd.h28.h⟩, ⟨dd.h34.h, dd.h35.h, dd.h36.h, dd.h37.h, dd.h38.h⟩, ⟨dd.h45.h, dd.h46.h, dd.h47.h, dd.h48.h⟩, ⟨dd.h56.h, dd.h57.h, dd.h58.h⟩, ⟨dd.h67.h, dd.h68.h⟩, dd.h78.h⟩
      · exact ⟨u.len, fun i t r h1 h2 => (A.at_ _ _ (u.tu i t r h1 h2)).2, (A.at_ _ _ u.o1).2, (A.at_ _ _ u.o2).2, (A.at_ _ _ u.o3).2, (A.at_ _ _ u.o4).2, (A.at_ _ _ u.o5).2, (A.at_ _ _ u.o6).2, (A.at_ _ _ u.o7).2, (A.at_ _ _ u.o8).2⟩
    · rw [if_neg h1] at hb
      by_cases h2 : b ∈ l.all
      · rw [if_pos h2] at hb; cases hb
      · rw [if_neg h2] at hb
        obtain ⟨h4, h5⟩ := A.at_ _ _ hb
        refine ⟨by rw [if_neg h2]; exact h4, ?_⟩
        cases o with
        | lst xs => exact h5
        | tup xs => exact h5
        | dK xs => exact h5
        | dT xs => exact h5
        | ins c fs => exact h5
        | shf S2 =>
          obtain ⟨C2, dx2, l2, ts2, c1, c2, c3, c4, c5⟩ := h5.ex
          refine ⟨C2, dx2, l2, ts2, c1, c2, fun d hd => ?_, c4, c5⟩
          rw [if_neg]
          · exact c3 d hd
          · intro z; have := (hal d z).1; rw [c3 d hd] at this; cases this
  · split at hb
    · rename_i h; exact (hal b h).2
    · exact A.live _ _ hb
theorem fold_sub {S' : Sh} {gU : G} (h : ∀ b o, b ≠ a → g b = some o → b ∉ l.all ∧ gU b = some o) (k : Keep gU gX a l) : Sub (gu g a (.shf S')) (foldG gX a l S') := fun b o hb => by
  unfold SW.gu at hb
  unfold foldG
  split at hb
  · rename_i e; rw [if_pos e]; exact hb
  · rename_i e
    rw [if_neg e]
    obtain ⟨h1, h2⟩ := h b o e hb
    rw [if_neg h1]
    exact k b o e h1 h2
theorem sub_self (e : g a = some (.shf S)) : Sub g (gu g a (.shf S)) := fun b o hb => by
  unfold SW.gu
  split
  · rename_i h; subst h; rw [e] at hb; exact hb
  · exact hb
end
end SW
end

section
set_option Elab.async false
set_option linter.all false
set_option maxRecDepth 100000
set_option maxHeartbeats 4000000
/-! The Shelf's methods keep their promises as primitives. -/
namespace SW
open PySem PySem.Spec PyProof.Rows L2
section
variable {prog : Program} {w : World} {K : PySem.W.Frag} {mg : Str → Option Value} {base : Heap} {P : Prm} {es : List Ent} {L : Nat} {kl : Addr → List V → Prop}
theorem Un.ls {g : G} {a : Addr} {l : ShL} {ts : List Addr} {S : Sh} (u : Un g a l ts S) : At g a (.ins 0 [(0, .ref l.a1), (1, .ref l.a2), (2, .ref l.a3), (3, .ref l.a4), (4, .ref l.a5), (5, .ref l.a6), (6, .ref l.a7), (7, .ref l.a8)]) ∧ At g l.a1 (.lst (.non :: ts.map V.ref)) ∧
    At g l.a3 (.lst (.int 0 :: S.map fun r => .int r.sg)) ∧ At g l.a4 (.lst (.int 0 :: S.map fun r => .int r.en)) ∧ At g l.a5 (.lst (.int 0 :: S.map fun r => .int r.lv)) ∧ At g l.a6 (.lst (.int (-1) :: S.map fun r => .int r.ht)) ∧
    At g l.a7 (.lst (.int 0 :: S.map fun r => .int r.fi)) ∧ At g l.a8 (.lst (.int 0 :: S.map fun r => .int r.la)) := ⟨⟨u.o0⟩, ⟨u.o1⟩, ⟨u.o3⟩, ⟨u.o4⟩, ⟨u.o5⟩, ⟨u.o6⟩, ⟨u.o7⟩, ⟨u.o8⟩⟩
theorem prim_low (hd : ShD (defsOf es)) {f : Nat} {vs : List V} {H : Hp} {Q : VK} {E : XK} (h : lowSp P (bsP f) vs H Q E) : lowSp P (Gam kl bz (defsOf es) 3 f) vs H Q E := by
  obtain ⟨g, Q', A, h, i⟩ := h
  have rd : ∀ {a : Addr} {S : Sh} {l : ShL} {ts : List Addr} {gU : G} {v : V}, g a = some (.shf S) → Ab P gU H → DisL a l → Un gU a l ts S → (∀ b o, b ≠ a → g b = some o → b ∉ l.all ∧ gU b = some o) → Q' v g → ∀ H', Ab P gU H' → Q v H' := by
    intro a S l ts gU v e A' dd u hk q H' A2
    refine i _ _ _ q ((fold_shelf A2 dd u).sub ?_)
    exact (sub_self e).trans (fold_sub hk fun _ _ _ _ h => h)
  have tl : ∀ {S : Sh} {ts : List Addr} {t : Nat}, ts.length = S.length → t ≤ S.length → t < (V.non :: ts.map V.ref).length := fun h1 h2 => by simp; omega
  cases h with
  | @init a _ _ e q =>
    refine ⟨g, fun v g' => ∀ H', Ab P g' H' → Q v H', A, ?_, fun _ _ _ h A2 => h _ A2⟩
    haveI : At g a (.ins 0 []) := ⟨e⟩
    refine z_init fun l gX dd hf u hk H' A2 => ?_
    refine i _ _ _ q ((fold_shelf A2 dd u).sub (fold_sub (fun b o h1 h2 => ⟨fun hb => ?_, h2⟩) hk))
    rw [hf b hb] at h2; cases h2
  | @many a _ _ S e q =>
    obtain ⟨l, ts, gU, A1, dd, u, hk⟩ := open_shelf A e
    obtain ⟨i0, i1, i3, i4, i5, i6, i7, i8⟩ := u.ls
    refine ⟨gU, fun v g' => ∀ H', Ab P g' H' → Q v H', A1, ?_, fun _ _ _ h A2 => h _ A2⟩
    refine z_many ?_
    have : (((V.non :: ts.map V.ref).length : Nat) : Int) - 1 = (S.length : Int) := by simp [u.len]
    rw [this]
    exact rd e A1 dd u hk q
  | @piece a _ _ S t pc e hp q =>
    obtain ⟨l, ts, gU, A1, dd, u, hk⟩ := open_shelf A e
    obtain ⟨i0, i1, i3, i4, i5, i6, i7, i8⟩ := u.ls
    refine ⟨gU, fun v g' => ∀ H', Ab P g' H' → Q v H', A1, ?_, fun _ _ _ h A2 => h _ A2⟩
    cases t with
    | zero => cases hp
    | succ n =>
      have hn : n < S.length := by
        cases h : S[n]? with
        | none => simp [pcT, h] at hp
        | some r => exact (List.getElem?_eq_some_iff.mp h).1
      have hn2 : n < ts.length := by rw [u.len]; exact hn
      have hpc : S[n].pc = pc := by simpa [pcT, hn] using hp
      have ht := u.tu n ts[n] S[n] (List.getElem?_eq_getElem hn2) (List.getElem?_eq_getElem hn)
      rw [hpc] at ht
      have hv : atI (V.non :: ts.map V.ref) ((n + 1 : Nat) : Int) = some (.ref ts[n]) := by
        unfold atI ixN
        rw [if_pos (by omega), if_pos (by simp; omega)]
        simp [hn2]
      refine z_piece (by omega) (by simp; omega) hv ?_
      have ad : g ts[n] = none ∨ g ts[n] = some (.tup ((pcK pc).map kV)) := by
        cases hg : g ts[n] with
        | none => exact .inl rfl
        | some o =>
          right
          by_cases hta : ts[n] = a
          · rw [hta, u.o0] at ht; cases ht
          · rw [(hk _ o hta hg).2] at ht; exact ht
      intro H' A2
      refine i _ _ _ (q _ ad) ((fold_shelf A2 dd u).sub ?_)
      intro b o hb
      unfold SW.gu at hb
      split at hb
      · rename_i hbt
        subst hbt
        cases hb
        unfold foldG
        rw [if_neg, if_neg]
        · exact ht
        · intro hl
          have : ∀ c o', gU c = some o' → (∀ ys, o' ≠ .tup ys) → ts[n] ≠ c := fun c o' hc ho z => by rw [← z, ht] at hc; cases hc; exact ho _ rfl
          simp only [ShL.all, List.mem_cons, List.not_mem_nil, or_false] at hl
          rcases hl with z | z | z | z | z | z | z | z
          · exact this _ _ u.o1 (fun _ z => nomatch z) z
          · exact this _ _ u.o2 (fun _ z => nomatch z) z
          · exact this _ _ u.o3 (fun _ z => nomatch z) z
          · exact this _ _ u.o4 (fun _ z => nomatch z) z
          · exact this _ _ u.o5 (fun _ z => nomatch z) z
          · exact this _ _ u.o6 (fun _ z => nomatch z) z
          · exact this _ _ u.o7 (fun _ z => nomatch z) z
          · exact this _ _ u.o8 (fun _ z => nomatch z) z
        · intro z; rw [z, u.o0] at ht; cases ht
      · exact fold_sub hk (fun _ _ _ _ h => h) b o (sub_self e b o hb)
  | @signs a _ _ S t e ht q =>
    obtain ⟨l, ts, gU, A1, dd, u, hk⟩ := open_shelf A e
    obtain ⟨i0, i1, i3, i4, i5, i6, i7, i8⟩ := u.ls
    refine ⟨gU, fun v g' => ∀ H', Ab P g' H' → Q v H', A1, ?_, fun _ _ _ h A2 => h _ A2⟩
    exact z_signs (tl u.len ht) (atI_sg ht) (rd e A1 dd u hk q)
  | @ends a _ _ S t e ht q =>
    obtain ⟨l, ts, gU, A1, dd, u, hk⟩ := open_shelf A e
    obtain ⟨i0, i1, i3, i4, i5, i6, i7, i8⟩ := u.ls
    refine ⟨gU, fun v g' => ∀ H', Ab P g' H' → Q v H', A1, ?_, fun _ _ _ h A2 => h _ A2⟩
    exact z_ends (tl u.len ht) (atI_en ht) (rd e A1 dd u hk q)
  | @leaves a _ _ S t e ht q =>
    obtain ⟨l, ts, gU, A1, dd, u, hk⟩ := open_shelf A e
    obtain ⟨i0, i1, i3, i4, i5, i6, i7, i8⟩ := u.ls
    refine ⟨gU, fun v g' => ∀ H', Ab P g' H' → Q v H', A1, ?_, fun _ _ _ h A2 => h _ A2⟩
    exact z_leaves (tl u.len ht) (atI_lv ht) (rd e A1 dd u hk q)
  | @height a _ _ S t e ht q =>
    obtain ⟨l, ts, gU, A1, dd, u, hk⟩ := open_shelf A e
    obtain ⟨i0, i1, i3, i4, i5, i6, i7, i8⟩ := u.ls
    refine ⟨gU, fun v g' => ∀ H', Ab P g' H' → Q v H', A1, ?_, fun _ _ _ h A2 => h _ A2⟩
    exact z_height (tl u.len ht) (atI_ht ht) (rd e A1 dd u hk q)
  | @first a _ _ S t e ht q =>
    obtain ⟨l, ts, gU, A1, dd, u, hk⟩ := open_shelf A e
    obtain ⟨i0, i1, i3, i4, i5, i6, i7, i8⟩ := u.ls
    refine ⟨gU, fun v g' => ∀ H', Ab P g' H' → Q v H', A1, ?_, fun _ _ _ h A2 => h _ A2⟩
    exact z_first_leaf (tl u.len ht) (atI_fi ht) (rd e A1 dd u hk q)
  | @last a _ _ S t e ht q =>
    obtain ⟨l, ts, gU, A1, dd, u, hk⟩ := open_shelf A e
    obtain ⟨i0, i1, i3, i4, i5, i6, i7, i8⟩ := u.ls
    refine ⟨gU, fun v g' => ∀ H', Ab P g' H' → Q v H', A1, ?_, fun _ _ _ h A2 => h _ A2⟩
    exact z_last_leaf (tl u.len ht) (atI_la ht) (rd e A1 dd u hk q)
  | @loose a _ _ S s t e hs ht hl hf q =>
    obtain ⟨l, ts, gU, A1, dd, u, hk⟩ := open_shelf A e
    obtain ⟨i0, i1, i3, i4, i5, i6, i7, i8⟩ := u.ls
    refine ⟨gU, fun v g' => ∀ H', Ab P g' H' → Q v H', A1, ?_, fun _ _ _ h A2 => h _ A2⟩
    refine z_is_loose (atI_la hs) (atI_sg hl) (atI_fi ht) (atI_sg hf) ?_
    have : decide ((sgT S (laT S s) : Int) + (sgT S (fiT S t) : Int) ≤ 8) = decide (sgT S (laT S s) + sgT S (fiT S t) ≤ 8) := decide_eq_decide.mpr (by omega)
    rw [this]
    exact rd e A1 dd u hk q
  | @leaf a _ _ S S' x n e hd' q =>
    obtain ⟨l, ts, gU, A1, dd, u, hk⟩ := open_shelf A e
    refine ⟨gU, fun v g' => ∀ H', Ab P g' H' → Q v H', A1, ?_, fun _ _ _ h A2 => h _ A2⟩
    exact z_leaf dd u hd' fun gX ts' u' k' H' A2 => i _ _ _ q ((fold_shelf A2 dd u').sub (fold_sub hk k'))
  | @fork a _ _ S S' s t n e hd' q =>
    obtain ⟨l, ts, gU, A1, dd, u, hk⟩ := open_shelf A e
    refine ⟨gU, fun v g' => ∀ H', Ab P g' H' → Q v H', A1, ?_, fun _ _ _ h A2 => h _ A2⟩
    exact z_fork dd u hd' fun gX ts' u' k' H' A2 => i _ _ _ q ((fold_shelf A2 dd u').sub (fold_sub hk k'))
theorem bs_ok (hd : ShD (defsOf es)) (A : AllOk prog w K mg base P es L (Gam kl bz (defsOf es) 3)) : AllOk prog w K mg base P es L bsP :=
  fun e he fd F => (A e he fd F).imp fun vs H Q Ex h => prim_low hd h
theorem bz_ok : AllOk prog w K mg base P es L bz := fun e he fd F =>
  ⟨fun vs H Q E h => by obtain ⟨g, Q', A, h, i⟩ := h; exact h.elim, fun A outer s H args us vs Q E hr e0 b r h => by obtain ⟨g, Q', A, h, i⟩ := h; exact h.elim⟩
/-- the whole text keeps its promises, over the shelf's primitives -/
theorem all_ok {T : Tab} (t : Top T es K mg) (hd : ShD (defsOf es)) (k : Nat) : AllOk prog w K mg base (prmOf T K kl) es (6 + 2 * k) (Gam kl bsP (defsOf es) k) := by
  have h1 := sys_ok (prog := prog) (w := w) (base := base) (kl := kl) (L := 0) (bs := bz) t bz_ok 3
  have h2 := bs_ok hd h1
  exact sys_ok (L := 6) t h2 k
end
end SW
end

section
set_option Elab.async false
set_option linter.all false
set_option maxRecDepth 100000
set_option maxHeartbeats 4000000
/-! The text functions in plain Lean; doing a deed again. -/
namespace SW
open PySem L2
section
variable {α β : Type}
def ret (x : α) : M α := fun S => some (x, S)
def bnd (m : M α) (f : α → M β) : M β := fun S => match m S with
  | some (x, S1) => f x S1
  | none => none
def no : M α := fun _ => none
/-- a look at the shelf, of texts that are there -/
def look (t : Nat) (f : Sh → α) : M α := fun S => if t ≤ S.length then some (f S, S) else none
theorem bnd_some {m : M α} {f : α → M β} {S S' : Sh} {r : β} (h : bnd m f S = some (r, S')) : ∃ x S1, m S = some (x, S1) ∧ f x S1 = some (r, S') := by
  unfold bnd at h
  split at h
  · rename_i x S1 e; exact ⟨x, S1, e, h⟩
  · cases h
theorem bnd_of {m : M α} {f : α → M β} {S S1 : Sh} {x : α} (h : m S = some (x, S1)) : bnd m f S = f x S1 := by unfold bnd; rw [h]
theorem ret_some {x r : α} {S S' : Sh} (h : ret x S = some (r, S')) : x = r ∧ S = S' := by
  unfold ret at h; injection h with h; injection h with h1 h2; exact ⟨h1, h2⟩
theorem look_some {t : Nat} {f : Sh → α} {r : α} {S S' : Sh} (h : look t f S = some (r, S')) : t ≤ S.length ∧ f S = r ∧ S = S' := by
  unfold look at h
  split at h
  · rename_i ht; injection h with h; injection h with h1 h2; exact ⟨ht, h1, h2⟩
  · cases h
/-- a deed done again, later, tells the same and lays nothing -/
class Stb (m : M α) : Prop where
  h : ∀ {S r S'}, m S = some (r, S') → S <+: S' ∧ ∀ S1, S' <+: S1 → m S1 = some (r, S1)
instance {x : α} : Stb (ret x) := ⟨fun h => by obtain ⟨rfl, rfl⟩ := ret_some h; exact ⟨List.prefix_rfl, fun _ _ => rfl⟩⟩
instance : Stb (no : M α) := ⟨fun h => nomatch h⟩
instance {m : M α} {f : α → M β} [a : Stb m] [b : ∀ x, Stb (f x)] : Stb (bnd m f) := ⟨fun h => by
  obtain ⟨x, S1, h1, h2⟩ := bnd_some h
  obtain ⟨p1, q1⟩ := a.h h1
  obtain ⟨p2, q2⟩ := (b x).h h2
  refine ⟨p1.trans p2, fun S2 h3 => ?_⟩
  rw [bnd_of (q1 S2 (p2.trans h3))]
  exact q2 S2 h3⟩
instance {c : Prop} [Decidable c] {m n : M α} [a : Stb m] [b : Stb n] : Stb (if c then m else n) := by split <;> assumption
theorem rdT_pre {S S' : Sh} {f : PRec → Nat} {t : Nat} (p : S <+: S') (h : t ≤ S.length) : rdT S' f t = rdT S f t := by
  obtain ⟨r, rfl⟩ := p; exact rdT_app h
theorem htT_pre {S S' : Sh} {t : Nat} (p : S <+: S') (h : t ≤ S.length) : htT S' t = htT S t := by
  obtain ⟨r, rfl⟩ := p; exact htT_app h
theorem pcT_pre {S S' : Sh} {t : Nat} (p : S <+: S') (h : t ≤ S.length) : pcT S' t = pcT S t := by
  obtain ⟨r, rfl⟩ := p; exact pcT_app h
theorem pcT_le {S : Sh} {t : Nat} {pc : Sum Str (Nat × Nat)} (h : pcT S t = some pc) : 0 < t ∧ t ≤ S.length := by
  cases t with
  | zero => cases h
  | succ n =>
    cases e : S[n]? with
    | none => simp [pcT, e] at h
    | some r => have := (List.getElem?_eq_some_iff.mp e).1; omega
theorem pcT_pre' {S S' : Sh} {t : Nat} {pc : Sum Str (Nat × Nat)} (p : S <+: S') (h : pcT S t = some pc) : pcT S' t = some pc := by
  rw [pcT_pre p (pcT_le h).2]; exact h
theorem look_stb {t : Nat} {f : Sh → α} (hf : ∀ {S S'}, S <+: S' → t ≤ S.length → f S' = f S) : Stb (look t f) := ⟨fun h => by
  obtain ⟨h1, rfl, rfl⟩ := look_some h
  refine ⟨List.prefix_rfl, fun S1 p => ?_⟩
  unfold look
  rw [if_pos (Nat.le_trans h1 p.length_le), hf p h1]⟩
/-! ### lookups of pieces -/
theorem lkF_app {pc : Sum Str (Nat × Nat)} : ∀ {S S' : Sh} {n : Nat}, lkF n (S ++ S') pc = match lkF n S pc with | some m => some m | none => lkF (n + S.length) S' pc
  | [], S', n => rfl
  | r :: S, S', n => by
    simp only [List.cons_append, lkF]
    split
    · rfl
    · rw [lkF_app, List.length_cons, Nat.add_assoc, Nat.add_comm 1]
theorem lkP_pre {S S' : Sh} {pc : Sum Str (Nat × Nat)} {n : Nat} (p : S <+: S') (h : lkP S pc = some n) : lkP S' pc = some n := by
  obtain ⟨r, rfl⟩ := p
  rw [show lkP (S ++ r) pc = _ from lkF_app, show lkF 0 S pc = some n from h]
theorem lkP_new {S : Sh} {r : PRec} (h : lkP S r.pc = none) : lkP (S ++ [r]) r.pc = some (S.length + 1) := by
  rw [show lkP (S ++ [r]) r.pc = _ from lkF_app, show lkF 0 S r.pc = none from h]
  simp [lkF]
theorem putP_stb {S S' : Sh} {r : PRec} {n : Nat} (h : putP r S = some (n, S')) : S <+: S' ∧ lkP S' r.pc = some n := by
  unfold putP at h
  split at h
  · rename_i m hm; cases h; exact ⟨List.prefix_rfl, hm⟩
  · rename_i hm
    split at h
    · cases h; exact ⟨List.prefix_append _ _, lkP_new hm⟩
    · cases h
instance {x : Str} : Stb (leafN x) := ⟨fun h => by
  unfold leafN at h
  split at h
  rotate_left
  · cases h
  rename_i hx
  obtain ⟨p, q⟩ := putP_stb h
  refine ⟨p, fun S1 p1 => ?_⟩
  unfold leafN
  rw [if_pos hx]
  unfold putP
  rw [show lkP S1 (lfR S1 x).pc = _ from lkP_pre p1 q]⟩
instance {a b : Nat} : Stb (forkN a b) := ⟨fun {S r S'} h => by
  unfold forkN at h
  split at h
  rotate_left
  · cases h
  rename_i hx
  obtain ⟨p, q⟩ := putP_stb h
  refine ⟨p, fun S1 p1 => ?_⟩
  unfold forkN
  have p2 := p.trans p1
  have hl := p2.length_le
  have e1 : ∀ {f : PRec → Nat} {t : Nat}, t ≤ S.length → rdT S1 f t = rdT S f t := fun ht => rdT_pre p2 ht
  rw [if_pos]
  · unfold putP
    rw [show lkP S1 (fkR S1 a b).pc = _ from lkP_pre p1 q]
  · obtain ⟨b1, b2, b3, b4, b5, b6, b7, b8, b9, b10⟩ := hx
    refine ⟨b1, by omega, b3, by omega, ?_, ?_, ?_, ?_, ?_, ?_⟩
    · rw [show laT S1 a = laT S a from e1 b2]; omega
    · rw [show fiT S1 b = fiT S b from e1 b4]; omega
    · rw [show laT S1 a = laT S a from e1 b2, show fiT S1 b = fiT S b from e1 b4, show sgT S1 (laT S a) = _ from e1 b5, show sgT S1 (fiT S b) = _ from e1 b6]; exact b7
    · rw [show hgT S1 a = _ from e1 b2, show hgT S1 b = _ from e1 b4]; exact b8
    · rw [show hgT S1 a = _ from e1 b2, show hgT S1 b = _ from e1 b4]; exact b9
    · rw [show sgT S1 a = _ from e1 b2, show sgT S1 b = _ from e1 b4]; exact b10⟩
end
/-! ### looks -/
def htN (t : Nat) : M Int := look t fun S => htT S t
def sgN (t : Nat) : M Nat := look t fun S => sgT S t
def enN (t : Nat) : M Nat := look t fun S => enT S t
def laN (t : Nat) : M Nat := look t fun S => laT S t
def fiN (t : Nat) : M Nat := look t fun S => fiT S t
instance {t : Nat} : Stb (htN t) := look_stb fun p h => htT_pre p h
instance {t : Nat} : Stb (sgN t) := look_stb fun p h => rdT_pre p h
instance {t : Nat} : Stb (enN t) := look_stb fun p h => rdT_pre p h
instance {t : Nat} : Stb (laN t) := look_stb fun p h => rdT_pre p h
instance {t : Nat} : Stb (fiN t) := look_stb fun p h => rdT_pre p h
def pcN (t : Nat) : M (Sum Str (Nat × Nat)) := fun S => (pcT S t).map fun p => (p, S)
theorem pcN_some {t : Nat} {S S' : Sh} {p : Sum Str (Nat × Nat)} (h : pcN t S = some (p, S')) : pcT S t = some p ∧ S = S' := by
  unfold pcN at h
  cases e : pcT S t with
  | none => rw [e] at h; cases h
  | some q => rw [e] at h; cases h; exact ⟨rfl, rfl⟩
instance {t : Nat} : Stb (pcN t) := ⟨fun h => by
  obtain ⟨h1, rfl⟩ := pcN_some h
  refine ⟨List.prefix_rfl, fun S1 p => ?_⟩
  unfold pcN
  rw [pcT_pre' p h1]
  rfl⟩
def partsN (t : Nat) : M (Nat × Nat) := bnd (pcN t) fun p => match p with
  | .inr q => ret q
  | .inl _ => no
instance {t : Nat} : Stb (partsN t) := by
  unfold partsN
  have : ∀ p : Sum Str (Nat × Nat), Stb (match p with | .inr q => ret q | .inl _ => (no : M (Nat × Nat))) := fun p => by cases p <;> infer_instance
  infer_instance
theorem partsN_some {t : Nat} {S S' : Sh} {p : Nat × Nat} (h : partsN t S = some (p, S')) : pcT S t = some (.inr p) ∧ S = S' := by
  obtain ⟨x, S1, h1, h2⟩ := bnd_some h
  obtain ⟨h3, rfl⟩ := pcN_some h1
  cases x with
  | inl x => cases h2
  | inr q => obtain ⟨rfl, rfl⟩ := ret_some h2; exact ⟨h3, rfl⟩
def ltN (t : Nat) : M Str := bnd (pcN t) fun p => match p with
  | .inl x => ret x
  | .inr _ => no
instance {t : Nat} : Stb (ltN t) := by
  unfold ltN
  have : ∀ p : Sum Str (Nat × Nat), Stb (match p with | .inl q => ret q | .inr _ => (no : M Str)) := fun p => by cases p <;> infer_instance
  infer_instance
theorem ltN_some {t : Nat} {S S' : Sh} {x : Str} (h : ltN t S = some (x, S')) : pcT S t = some (.inl x) ∧ S = S' := by
  obtain ⟨y, S1, h1, h2⟩ := bnd_some h
  obtain ⟨h3, rfl⟩ := pcN_some h1
  cases y with
  | inl q => obtain ⟨rfl, rfl⟩ := ret_some h2; exact ⟨h3, rfl⟩
  | inr x => cases h2
def looseN (a b : Nat) : M Bool := bnd (laN a) fun l => bnd (fiN b) fun f => bnd (sgN l) fun x => bnd (sgN f) fun y => ret (decide (x + y ≤ 8))
instance {a b : Nat} : Stb (looseN a b) := by unfold looseN; infer_instance
/-! ### joining -/
def trN (a b : Nat) : M Nat := bnd (partsN b) fun p => bnd (htN p.1) fun h1 => bnd (htN p.2) fun h2 =>
  if h1 ≤ h2 then bnd (forkN a p.1) fun x => forkN x p.2 else bnd (partsN p.1) fun q => bnd (forkN a q.1) fun x => bnd (forkN q.2 p.2) fun y => forkN x y
def tlN (a b : Nat) : M Nat := bnd (partsN a) fun p => bnd (htN p.2) fun h2 => bnd (htN p.1) fun h1 =>
  if h2 ≤ h1 then bnd (forkN p.2 b) fun x => forkN p.1 x else bnd (partsN p.2) fun q => bnd (forkN p.1 q.1) fun x => bnd (forkN q.2 b) fun y => forkN x y
def levN (a b : Nat) : M Nat := bnd (htN b) fun hb => bnd (htN a) fun ha => if ha + 1 < hb then trN a b else if hb + 1 < ha then tlN a b else forkN a b
def lkN : Nat → Nat → Nat → M Nat
  | 0, _, _ => no
  | n + 1, a, b => if a = 0 ∨ b = 0 then ret (a + b) else bnd (htN a) fun ha => bnd (htN b) fun hb =>
    if hb + 1 < ha then bnd (partsN a) fun p => bnd (lkN n p.2 b) fun x => levN p.1 x
    else if ha + 1 < hb then bnd (partsN b) fun p => bnd (lkN n a p.1) fun x => levN x p.2
    else forkN a b
def wlN : Nat → Nat → M Nat
  | 0, _ => no
  | n + 1, t => bnd (htN t) fun h => if h = 0 then ret 0 else bnd (partsN t) fun p => bnd (wlN n p.2) fun x => lkN (n + 3) p.1 x
def wfN : Nat → Nat → M Nat
  | 0, _ => no
  | n + 1, t => bnd (htN t) fun h => if h = 0 then ret 0 else bnd (partsN t) fun p => bnd (wfN n p.1) fun x => lkN (n + 3) x p.2
def poN (n a b : Nat) : M Nat := bnd (laN a) fun la => bnd (ltN la) fun x => bnd (fiN b) fun fb => bnd (ltN fb) fun y => bnd (leafN (x ++ y)) fun m =>
  bnd (wlN n a) fun u => bnd (lkN (n + 3) u m) fun v => bnd (wfN n b) fun w => lkN (n + 3) v w
def joN (n a b : Nat) : M Nat := bnd (sgN a) fun sa => bnd (sgN b) fun sb => if 1000000000000000000 < sa + sb then no else
  if a = 0 ∨ b = 0 then ret (a + b) else bnd (looseN a b) fun l => if l = true then poN n a b else lkN (n + 3) a b
instance {a b : Nat} : Stb (trN a b) := by unfold trN; infer_instance
instance {a b : Nat} : Stb (tlN a b) := by unfold tlN; infer_instance
instance {a b : Nat} : Stb (levN a b) := by unfold levN; infer_instance
theorem lkN_stb : ∀ n a b, Stb (lkN n a b)
  | 0, a, b => by unfold lkN; infer_instance
  | n + 1, a, b => by
    have := lkN_stb n
    unfold lkN; infer_instance
instance {n a b : Nat} : Stb (lkN n a b) := lkN_stb n a b
theorem wlN_stb : ∀ n a, Stb (wlN n a)
  | 0, a => by unfold wlN; infer_instance
  | n + 1, a => by
    have := wlN_stb n
    unfold wlN; infer_instance
instance {n a : Nat} : Stb (wlN n a) := wlN_stb n a
theorem wfN_stb : ∀ n a, Stb (wfN n a)
  | 0, a => by unfold wfN; infer_instance
  | n + 1, a => by
    have := wfN_stb n
    unfold wfN; infer_instance
instance {n a : Nat} : Stb (wfN n a) := wfN_stb n a
instance {n a b : Nat} : Stb (poN n a b) := by unfold poN; infer_instance
instance {n a b : Nat} : Stb (joN n a b) := by unfold joN; infer_instance
/-! ### cutting -/
/-- a part of a leaf -/
def lpN (x : Str) : M Nat := if x.cps.size = 0 then ret 0 else leafN x
instance {x : Str} : Stb (lpN x) := by unfold lpN; infer_instance
def leN (t : Nat) (at_ : Nat) : M (Nat × Nat) := bnd (ltN t) fun x => if 8 < x.cps.size then no else bnd (lpN (cutS x none (some (at_ : Int)))) fun a => bnd (lpN (cutS x (some (at_ : Int)) none)) fun b => ret (a, b)
instance {t at_ : Nat} : Stb (leN t at_) := by unfold leN; infer_instance
def haN : Nat → Nat → Nat → M (Nat × Nat)
  | 0, _, _ => no
  | n + 1, t, at_ => if at_ = 0 then ret (0, t) else bnd (sgN t) fun s => if at_ = s then ret (t, 0) else bnd (htN t) fun h => if h = 0 then leN t at_ else
    bnd (partsN t) fun p => bnd (sgN p.1) fun ahead => if at_ < ahead then bnd (haN n p.1 at_) fun q => bnd (joN (n + 1) q.2 p.2) fun x => ret (q.1, x)
      else bnd (haN n p.2 (at_ - ahead)) fun q => bnd (joN (n + 1) p.1 q.1) fun x => ret (x, q.2)
theorem haN_stb : ∀ n a b, Stb (haN n a b)
  | 0, a, b => by unfold haN; infer_instance
  | n + 1, a, b => by
    have := haN_stb n
    unfold haN; infer_instance
instance {n a b : Nat} : Stb (haN n a b) := haN_stb n a b
/-- want_stretch -/
def wsN (t b e : Nat) : M Unit := bnd (sgN t) fun s => if b ≤ e ∧ e ≤ s then ret () else no
instance {t b e : Nat} : Stb (wsN t b e) := by unfold wsN; infer_instance
def ctN (n t at_ : Nat) : M (Nat × Nat) := bnd (sgN t) fun s => bnd (wsN t at_ s) fun _ => haN n t at_
def piN (n t at_ o : Nat) : M Nat := bnd (sgN t) fun s => bnd (sgN o) fun s2 => bnd (wsN t at_ s) fun _ => if 1000000000000000000 < s + s2 then no else
  bnd (haN n t at_) fun q => bnd (joN (n + 1) q.1 o) fun x => joN (n + 3) x q.2
def tkN (n t b e : Nat) : M Nat := bnd (wsN t b e) fun _ => bnd (haN n t b) fun q => bnd (haN n t e) fun q2 => joN (n + 1) q.1 q2.2
def kpN (n t b e : Nat) : M Nat := bnd (wsN t b e) fun _ => bnd (haN n t e) fun q => bnd (haN n q.1 b) fun q2 => ret q2.2
instance {n t a : Nat} : Stb (ctN n t a) := by unfold ctN; infer_instance
instance {n t a o : Nat} : Stb (piN n t a o) := by unfold piN; infer_instance
instance {n t b e : Nat} : Stb (tkN n t b e) := by unfold tkN; infer_instance
instance {n t b e : Nat} : Stb (kpN n t b e) := by unfold kpN; infer_instance
/-! ### building, repeating -/
def bfN : Nat → List Nat → M Nat
  | 0, _ => no
  | n + 1, xs => if xs.length = 0 then no else if xs.length = 1 then ret (xs.headD 0) else bnd (bfN n (xs.take (xs.length / 2))) fun a => bnd (bfN n (xs.drop (xs.length / 2))) fun b => forkN a b
theorem bfN_stb : ∀ n xs, Stb (bfN n xs)
  | 0, xs => by unfold bfN; infer_instance
  | n + 1, xs => by
    have := bfN_stb n
    unfold bfN; infer_instance
instance {n : Nat} {xs : List Nat} : Stb (bfN n xs) := bfN_stb n xs
/-- leaves of eight signs -/
def lvN (x : Str) : Nat → M (List Nat)
  | 0 => ret []
  | i + 1 => bnd (lvN x i) fun l => bnd (leafN (cutS x (some ((8 * i : Nat) : Int)) (some ((8 * i + 8 : Nat) : Int)))) fun n => ret (l ++ [n])
theorem lvN_stb : ∀ x n, Stb (lvN x n)
  | x, 0 => by unfold lvN; infer_instance
  | x, n + 1 => by
    have := lvN_stb x n
    unfold lvN; infer_instance
instance {n : Nat} {x : Str} : Stb (lvN x n) := lvN_stb x n
def buN (n : Nat) (x : Str) : M Nat := if plainB x = false ∨ 10000 < x.cps.size then no else if x.cps.size = 0 then ret 0 else bnd (lvN x ((x.cps.size + 7) / 8)) fun l => bfN n l
instance {n : Nat} {x : Str} : Stb (buN n x) := by unfold buN; infer_instance
/-- the loop of repeated: found, twice, many -/
def rlN (n : Nat) : Nat → Nat → Nat → Nat → M Nat
  | 0, _, _, _ => no
  | f + 1, found, twice, many => if many = 0 then ret found else bnd (if many % 2 = 1 then joN n found twice else ret found) fun x =>
    bnd (if 0 < many / 2 then joN n twice twice else ret twice) fun y => rlN n f x y (many / 2)
theorem rlN_stb (n : Nat) : ∀ f a b m, Stb (rlN n f a b m)
  | 0, a, b, m => by unfold rlN; infer_instance
  | f + 1, a, b, m => by
    have := rlN_stb n f
    unfold rlN; infer_instance
instance {n f a b m : Nat} : Stb (rlN n f a b m) := rlN_stb n f a b m
def reN (n t many : Nat) : M Nat := bnd (sgN t) fun s => if 1000000000000000000 < s * many then no else if t = 0 then ret 0 else rlN n (many + 1) 0 t many
instance {n t many : Nat} : Stb (reN n t many) := by unfold reN; infer_instance
end SW
end

section
set_option Elab.async false
set_option linter.all false
set_option maxRecDepth 100000
set_option maxHeartbeats 4000000
/-! The text functions' walks. -/
namespace SW
open PySem L2
set_option synthInstance.maxHeartbeats 200000
set_option synthInstance.maxSize 100000
/-- fresh, or there already -/
class Ad (g : G) (p : Addr) (o : O) : Prop where
  h : g p = none ∨ g p = some o
instance (priority := 2000) {g : G} {p : Addr} {o : O} [f : Fr g p] : Ad g p o := ⟨.inl f.h⟩
instance (priority := 400) {g : G} {a b : Addr} {o u : O} [s : At g b u] [n : Ad g a o] : At (gu g a o) b u := ⟨by
  unfold SW.gu
  split
  · rename_i e
    subst e
    rcases n.h with h | h
    · have := s.h; rw [h] at this; cases this
    · have := s.h; rw [h] at this; exact this
  · exact s.h⟩
class SubX (a : Addr) (g g' : G) : Prop where
  h : ∀ b o, b ≠ a → g b = some o → g' b = some o
instance {a : Addr} {g : G} : SubX a g g := ⟨fun _ _ _ h => h⟩
instance (priority := 2000) {a : Addr} {g g' : G} {o : O} [s : SubX a g g'] : SubX a g (gu g' a o) := ⟨fun b u h1 h2 => by rw [gun h1]; exact s.h b u h1 h2⟩
theorem Ad.sub {g : G} {p : Addr} {o : O} (h : Ad g p o) : Sub g (gu g p o) := fun b u hb => by
  unfold SW.gu
  split
  · rename_i e
    subst e
    rcases h.h with h | h
    · rw [h] at hb; cases hb
    · rw [← hb, h]
  · exact hb
instance (priority := 500) {a p : Addr} {g g' : G} {o : O} [s : SubX a g g'] [n : Ad g' p o] : SubX a g (gu g' p o) := ⟨fun b u h1 h2 => n.sub b u (s.h b u h1 h2)⟩
class SubC (g g' : G) : Prop where
  h : Sub g g'
instance {g : G} : SubC g g := ⟨Sub.refl g⟩
instance {p : Addr} {g g' : G} {o : O} [s : SubC g g'] [n : Ad g' p o] : SubC g (gu g' p o) := ⟨s.h.trans n.sub⟩
/-- the same change on both sides -/
instance {a : Addr} {g g' : G} {o : O} [s : SubX a g g'] : SubC (gu g a o) (gu g' a o) := ⟨fun b u hb => by
  unfold SW.gu at hb ⊢
  split
  · rename_i e; rw [if_pos e] at hb; exact hb
  · rename_i e; rw [if_neg e] at hb; exact s.h b u e hb⟩
theorem gu_at {g : G} {a : Addr} {o : O} (h : g a = some o) : gu g a o = g := by
  funext b
  unfold SW.gu
  split
  · rename_i e; rw [e, h]
  · rfl
/-- a change that is none -/
instance (priority := 300) {a : Addr} {g g' : G} {o : O} [s : SubC g g'] [t : At g a o] : SubC (gu g a o) g' := ⟨by rw [gu_at t.h]; exact s.h⟩
theorem fin {g g' : G} {K : G → Prop} [s : SubC g g'] (q : K g) : ∃ g'', Sub g'' g' ∧ K g'' := ⟨g, s.h, q⟩
theorem gu_gu {g : G} {a : Addr} {o u : O} : gu (gu g a o) a u = gu g a u := by
  funext b; unfold SW.gu; split <;> rfl

class JoD (defs : Nat → Option FDef) : Prop where
  h2 : defs 2 = some d_is_plain
  h39 : defs 39 = some d_is_leaf
  h40 : defs 40 = some d_parts_of
  h41 : defs 41 = some d_turned_right
  h42 : defs 42 = some d_turned_left
  h43 : defs 43 = some d_levelled
  h44 : defs 44 = some d_linked
  h45 : defs 45 = some d_without_last
  h46 : defs 46 = some d_without_first
  h47 : defs 47 = some d_leaf_text
  h48 : defs 48 = some d_poured
  h49 : defs 49 = some d_joined
  h50 : defs 50 = some d_built_of
  h51 : defs 51 = some d_built
  h53 : defs 53 = some d_want_stretch
  h54 : defs 54 = some d_leaf_cut
  h55 : defs 55 = some d_halves
section
variable {kl : Addr → List V → Prop} {defs : Nat → Option FDef} {k : Nat} {g : G} {Q : VG} {E : XG} {a : Addr} {S S' : Sh}
theorem gam_base {f : Nat} {vs : List V} (h : PrimOk f vs g Q) : Gam kl bsP defs k f vs g Q E := by
  cases k with
  | zero => exact h
  | succ n => exact .inl h
instance [s : At g a (.shf S)] : Step (Gam kl bsP defs k 12 [.ref a] g Q E) (Q (.int S.length) g) := ⟨fun h => gam_base (.many s.h h)⟩
instance [s : At g a (.shf S)] {t : Nat} : Step (Gam kl bsP defs k 14 [.ref a, .int t] g Q E) (t ≤ S.length ∧ Q (.int (sgT S t)) g) := ⟨fun h => gam_base (.signs s.h h.1 h.2)⟩
instance [s : At g a (.shf S)] {t : Nat} : Step (Gam kl bsP defs k 15 [.ref a, .int t] g Q E) (t ≤ S.length ∧ Q (.int (enT S t)) g) := ⟨fun h => gam_base (.ends s.h h.1 h.2)⟩
instance [s : At g a (.shf S)] {t : Nat} : Step (Gam kl bsP defs k 16 [.ref a, .int t] g Q E) (t ≤ S.length ∧ Q (.int (lvT S t)) g) := ⟨fun h => gam_base (.leaves s.h h.1 h.2)⟩
instance [s : At g a (.shf S)] {t : Nat} : Step (Gam kl bsP defs k 17 [.ref a, .int t] g Q E) (t ≤ S.length ∧ Q (.int (htT S t)) g) := ⟨fun h => gam_base (.height s.h h.1 h.2)⟩
instance [s : At g a (.shf S)] {t : Nat} : Step (Gam kl bsP defs k 18 [.ref a, .int t] g Q E) (t ≤ S.length ∧ Q (.int (fiT S t)) g) := ⟨fun h => gam_base (.first s.h h.1 h.2)⟩
instance [s : At g a (.shf S)] {t : Nat} : Step (Gam kl bsP defs k 19 [.ref a, .int t] g Q E) (t ≤ S.length ∧ Q (.int (laT S t)) g) := ⟨fun h => gam_base (.last s.h h.1 h.2)⟩
instance [s : At g a (.shf S)] {x : Str} {n : Nat} [d : Does (leafN x) S n S'] : Step (Gam kl bsP defs k 21 [.ref a, .str x] g Q E) (Q (.int n) (gu g a (.shf S'))) := ⟨fun h => gam_base (.leaf s.h d.h h)⟩
instance [s : At g a (.shf S)] {x y n : Nat} [d : Does (forkN x y) S n S'] : Step (Gam kl bsP defs k 22 [.ref a, .int x, .int y] g Q E) (Q (.int n) (gu g a (.shf S'))) := ⟨fun h => gam_base (.fork s.h d.h h)⟩
/-- a piece -/
class Pc (S : Sh) (t : Nat) (p : outParam (Sum Str (Nat × Nat))) : Prop where
  h : pcT S t = some p
instance [s : At g a (.shf S)] {t : Nat} {pc : Sum Str (Nat × Nat)} [d : Pc S t pc] : Step (Gam kl bsP defs k 13 [.ref a, .int t] g Q E) (∀ p, Ad g p (.tup ((pcK pc).map kV)) → Q (.ref p) (gu g p (.tup ((pcK pc).map kV)))) := ⟨fun h => gam_base (.piece s.h d.h fun p hp => h p ⟨hp⟩)⟩
instance [s : At g a (.shf S)] {x y : Nat} {b : Bool} [d : Does (looseN x y) S b S'] : Step (Gam kl bsP defs k 23 [.ref a, .int x, .int y] g Q E) (Q (.bl b) g) := ⟨fun h => by
  have hd := d.h
  unfold looseN at hd
  obtain ⟨_, _, e1, hd⟩ := bnd_some hd
  obtain ⟨l1, rfl, rfl⟩ := look_some e1
  obtain ⟨_, _, e1, hd⟩ := bnd_some hd
  obtain ⟨l2, rfl, rfl⟩ := look_some e1
  obtain ⟨_, _, e1, hd⟩ := bnd_some hd
  obtain ⟨l3, rfl, rfl⟩ := look_some e1
  obtain ⟨_, _, e1, hd⟩ := bnd_some hd
  obtain ⟨l4, rfl, rfl⟩ := look_some e1
  obtain ⟨rfl, rfl⟩ := ret_some hd
  exact gam_base (.loose s.h l1 l2 l3 l4 h)⟩
/-- a fork, a leaf -/
class PcF (S : Sh) (t : Nat) (x y : outParam Nat) : Prop where
  h : pcT S t = some (.inr (x, y))
class PcL (S : Sh) (t : Nat) (x : outParam Str) : Prop where
  h : pcT S t = some (.inl x)
instance [s : At g a (.shf S)] {t x y : Nat} [d : PcF S t x y] : Step (Gam kl bsP defs k 13 [.ref a, .int t] g Q E) (∀ p, Ad g p (.tup [.str "fork", .int x, .int y]) → Q (.ref p) (gu g p (.tup [.str "fork", .int x, .int y]))) := ⟨fun h => gam_base (.piece s.h d.h fun p hp => h p ⟨hp⟩)⟩
instance [s : At g a (.shf S)] {t : Nat} {x : Str} [d : PcL S t x] : Step (Gam kl bsP defs k 13 [.ref a, .int t] g Q E) (∀ p, Ad g p (.tup [.str "leaf", .str x]) → Q (.ref p) (gu g p (.tup [.str "leaf", .str x]))) := ⟨fun h => gam_base (.piece s.h d.h fun p hp => h p ⟨hp⟩)⟩
instance {l : TLs} {c : Cal} {σ : L2.St} : Step (eTup l c σ g Q) (l c σ g fun xs g1 => xs.length ≤ sizeLine ∧ ∀ p, Fr g1 p → Q (.ref p) (gu g1 p (.tup xs))) := ⟨fun h => by
  have e : (fun xs g1 => xs.length ≤ sizeLine ∧ ∀ p, Fr g1 p → Q (.ref p) (gu g1 p (.tup xs))) = (fun xs g1 => xs.length ≤ sizeLine ∧ ∀ p, g1 p = none → Q (.ref p) (gu g1 p (.tup xs))) := by
    funext xs g1
    exact propext ⟨fun h => ⟨h.1, fun p f => h.2 p ⟨f⟩⟩, fun h => ⟨h.1, fun p f => h.2 p f.h⟩⟩
  rw [e] at h; exact h⟩
instance {l : TLs} {c : Cal} {σ : L2.St} : Step (eLst l c σ g Q) (l c σ g fun xs g1 => xs.length ≤ sizeLine ∧ ∀ p, Fr g1 p → Q (.ref p) (gu g1 p (.lst xs))) := ⟨fun h => by
  have e : (fun xs g1 => xs.length ≤ sizeLine ∧ ∀ p, Fr g1 p → Q (.ref p) (gu g1 p (.lst xs))) = (fun xs g1 => xs.length ≤ sizeLine ∧ ∀ p, g1 p = none → Q (.ref p) (gu g1 p (.lst xs))) := by
    funext xs g1
    exact propext ⟨fun h => ⟨h.1, fun p f => h.2 p ⟨f⟩⟩, fun h => ⟨h.1, fun p f => h.2 p f.h⟩⟩
  rw [e] at h; exact h⟩
end
end SW
end

section
set_option Elab.async false
set_option linter.all false
set_option maxRecDepth 100000
set_option maxHeartbeats 4000000
/-! Walks: joining. -/
namespace SW
open PySem L2
local macro_rules | `(tactic| walk_at "w") => `(tactic| repeat first | refine go ?_ | refine ifT ?_ | refine ifF ?_ | refine And.intro (by omega) ?_ | refine ifD (by omega) ?_ | refine ifDn (by omega) ?_ | refine ifN (by omega) ?_ | refine ifNn (by omega) ?_ | refine And.intro (by simp [sizeLine, atOf] <;> omega) ?_ | (intro _ _) | fail)
set_option synthInstance.maxHeartbeats 200000
set_option synthInstance.maxSize 100000
section
variable {kl : Addr → List V → Prop} {defs : Nat → Option FDef} {k : Nat} {g : G} {Q : VG} {E : XG} {a : Addr} {S S' : Sh} [jd : JoD defs] [sa : At g a (.shf S)]
theorem w_isleaf {t : Nat} (ht : t ≤ S.length) (hk : 1 ≤ k) (q : Q (.bl (decide (htT S t = 0))) g) : Gam kl bsP defs k 39 [.ref a, .int t] g Q E := by
  obtain ⟨k, rfl⟩ : ∃ j, k = j + 1 := ⟨k - 1, by omega⟩
  refine gam_of jd.h39 rfl ?_
  show b_is_leaf _ _ [some (.ref a), some (.int t)] _
  unfold b_is_leaf
  walk_at "w"
  exact fin q
instance {t : Nat} : Step (Gam kl bsP defs k 39 [.ref a, .int t] g Q E) ((t ≤ S.length ∧ 1 ≤ k) ∧ Q (.bl (decide (htT S t = 0))) g) := ⟨fun h => w_isleaf h.1.1 h.1.2 h.2⟩
theorem w_parts {t x y : Nat} [d : PcF S t x y] (hk : 1 ≤ k) (q : ∀ p, Fr g p → Q (.ref p) (gu g p (.tup [.int x, .int y]))) : Gam kl bsP defs k 40 [.ref a, .int t] g Q E := by
  obtain ⟨k, rfl⟩ : ∃ j, k = j + 1 := ⟨k - 1, by omega⟩
  refine gam_of jd.h40 rfl ?_
  show b_parts_of _ _ [some (.ref a), some (.int t), none, none, none] _
  unfold b_parts_of
  walk_at "w"
  rename_i p2 f2
  exact fin (g := gu g p2 _) (q p2 f2.of_gu)
instance {t x y : Nat} [d : PcF S t x y] : Step (Gam kl bsP defs k 40 [.ref a, .int t] g Q E) (1 ≤ k ∧ ∀ p, Fr g p → Q (.ref p) (gu g p (.tup [.int x, .int y]))) := ⟨fun h => w_parts h.1 h.2⟩
theorem w_tr {x y r : Nat} (h : trN x y S = some (r, S')) (hk : 2 ≤ k) (q : Q (.int r) (gu g a (.shf S'))) : Gam kl bsP defs k 41 [.ref a, .int x, .int y] g Q E := by
  obtain ⟨k, rfl⟩ : ∃ j, k = j + 1 := ⟨k - 1, by omega⟩
  obtain ⟨⟨i, o⟩, _, e1, h⟩ := bnd_some h
  obtain ⟨f1, rfl⟩ := partsN_some e1
  haveI : PcF S y i o := ⟨f1⟩
  obtain ⟨_, _, e1, h⟩ := bnd_some h
  obtain ⟨l1, rfl, rfl⟩ := look_some e1
  obtain ⟨_, _, e1, h⟩ := bnd_some h
  obtain ⟨l2, rfl, rfl⟩ := look_some e1
  refine gam_of jd.h41 rfl ?_
  show b_turned_right _ _ [some (.ref a), some (.int x), some (.int y), none, none, none, none] _
  unfold b_turned_right
  split at h
  · rename_i hc
    obtain ⟨u, S1, e1, h⟩ := bnd_some h
    haveI : Does (forkN x i) S u S1 := ⟨e1⟩
    haveI : Does (forkN u o) S1 r S' := ⟨h⟩
    walk_at "w"
    exact fin q
  · rename_i hc
    obtain ⟨⟨m, n⟩, _, e1, h⟩ := bnd_some h
    obtain ⟨f1, rfl⟩ := partsN_some e1
    haveI : PcF S i m n := ⟨f1⟩
    obtain ⟨u, S1, e1, h⟩ := bnd_some h
    haveI : Does (forkN x m) S u S1 := ⟨e1⟩
    obtain ⟨v, S2, e1, h⟩ := bnd_some h
    haveI : Does (forkN n o) S1 v S2 := ⟨e1⟩
    haveI : Does (forkN u v) S2 r S' := ⟨h⟩
    walk_at "w"
    exact fin q
instance {x y r : Nat} [d : Does (trN x y) S r S'] : Step (Gam kl bsP defs k 41 [.ref a, .int x, .int y] g Q E) (2 ≤ k ∧ Q (.int r) (gu g a (.shf S'))) := ⟨fun h => w_tr d.h h.1 h.2⟩
theorem w_tl {x y r : Nat} (h : tlN x y S = some (r, S')) (hk : 2 ≤ k) (q : Q (.int r) (gu g a (.shf S'))) : Gam kl bsP defs k 42 [.ref a, .int x, .int y] g Q E := by
  obtain ⟨k, rfl⟩ : ∃ j, k = j + 1 := ⟨k - 1, by omega⟩
  obtain ⟨⟨o, i⟩, _, e1, h⟩ := bnd_some h
  obtain ⟨f1, rfl⟩ := partsN_some e1
  haveI : PcF S x o i := ⟨f1⟩
  obtain ⟨_, _, e1, h⟩ := bnd_some h
  obtain ⟨l1, rfl, rfl⟩ := look_some e1
  obtain ⟨_, _, e1, h⟩ := bnd_some h
  obtain ⟨l2, rfl, rfl⟩ := look_some e1
  refine gam_of jd.h42 rfl ?_
  show b_turned_left _ _ [some (.ref a), some (.int x), some (.int y), none, none, none, none] _
  unfold b_turned_left
  split at h
  · rename_i hc
    obtain ⟨u, S1, e1, h⟩ := bnd_some h
    haveI : Does (forkN i y) S u S1 := ⟨e1⟩
    haveI : Does (forkN o u) S1 r S' := ⟨h⟩
    walk_at "w"
    exact fin q
  · rename_i hc
    obtain ⟨⟨m, n⟩, _, e1, h⟩ := bnd_some h
    obtain ⟨f1, rfl⟩ := partsN_some e1
    haveI : PcF S i m n := ⟨f1⟩
    obtain ⟨u, S1, e1, h⟩ := bnd_some h
    haveI : Does (forkN o m) S u S1 := ⟨e1⟩
    obtain ⟨v, S2, e1, h⟩ := bnd_some h
    haveI : Does (forkN n y) S1 v S2 := ⟨e1⟩
    haveI : Does (forkN u v) S2 r S' := ⟨h⟩
    walk_at "w"
    exact fin q
instance {x y r : Nat} [d : Does (tlN x y) S r S'] : Step (Gam kl bsP defs k 42 [.ref a, .int x, .int y] g Q E) (2 ≤ k ∧ Q (.int r) (gu g a (.shf S'))) := ⟨fun h => w_tl d.h h.1 h.2⟩
theorem w_lev {x y r : Nat} (h : levN x y S = some (r, S')) (hk : 3 ≤ k) (q : Q (.int r) (gu g a (.shf S'))) : Gam kl bsP defs k 43 [.ref a, .int x, .int y] g Q E := by
  obtain ⟨k, rfl⟩ : ∃ j, k = j + 1 := ⟨k - 1, by omega⟩
  obtain ⟨_, _, e1, h⟩ := bnd_some h
  obtain ⟨l1, rfl, rfl⟩ := look_some e1
  obtain ⟨_, _, e1, h⟩ := bnd_some h
  obtain ⟨l2, rfl, rfl⟩ := look_some e1
  refine gam_of jd.h43 rfl ?_
  show b_levelled _ _ [some (.ref a), some (.int x), some (.int y)] _
  unfold b_levelled
  split at h
  · rename_i hc
    haveI : Does (trN x y) S r S' := ⟨h⟩
    walk_at "w"
    exact fin q
  · rename_i hc
    split at h
    · haveI : Does (tlN x y) S r S' := ⟨h⟩
      walk_at "w"
      exact fin q
    · haveI : Does (forkN x y) S r S' := ⟨h⟩
      walk_at "w"
      exact fin q
instance {x y r : Nat} [d : Does (levN x y) S r S'] : Step (Gam kl bsP defs k 43 [.ref a, .int x, .int y] g Q E) (3 ≤ k ∧ Q (.int r) (gu g a (.shf S'))) := ⟨fun h => w_lev d.h h.1 h.2⟩
end
end SW
end

section
set_option Elab.async false
set_option linter.all false
set_option maxRecDepth 100000
set_option maxHeartbeats 4000000
/-! Walks: joining. -/
namespace SW
open PySem L2
local macro_rules | `(tactic| walk_at "w") => `(tactic| repeat first | refine go ?_ | refine ifT ?_ | refine ifF ?_ | refine And.intro (by omega) ?_ | refine ifD (by omega) ?_ | refine ifDn (by omega) ?_ | refine ifN (by omega) ?_ | refine ifNn (by omega) ?_ | refine And.intro (by simp [sizeLine, atOf] <;> omega) ?_ | (intro _ _) | fail)
set_option synthInstance.maxHeartbeats 200000
set_option synthInstance.maxSize 100000
section
variable {kl : Addr → List V → Prop} {defs : Nat → Option FDef} {k : Nat} {g : G} {Q : VG} {E : XG} {a : Addr} {S S' : Sh} [jd : JoD defs] [sa : At g a (.shf S)]
theorem w_lk : ∀ {n k : Nat} {g : G} {Q : VG} {E : XG} {S S' : Sh} [sa : At g a (.shf S)] {x y r : Nat} (h : lkN n x y S = some (r, S')) (hk : n + 3 ≤ k) (q : Q (.int r) (gu g a (.shf S'))), Gam kl bsP defs k 44 [.ref a, .int x, .int y] g Q E
  | 0, _, _, _, _, _, _, _, _, _, _, h, _, _ => nomatch h
  | n + 1, k, g, Q, E, S, S', sa, x, y, r, h, hk, q => by
    obtain ⟨k, rfl⟩ : ∃ j, k = j + 1 := ⟨k - 1, by omega⟩
    refine gam_of jd.h44 rfl ?_
    show b_linked _ _ [some (.ref a), some (.int x), some (.int y), none, none] _
    unfold b_linked
    unfold lkN at h
    split at h
    · rename_i hc
      obtain ⟨rfl, rfl⟩ := ret_some h
      rw [Int.natCast_add] at q
      by_cases hx : x = 0
      · walk_at "w"
        exact fin q
      · have hy : y = 0 := by omega
        walk_at "w"
        exact fin q
    · rename_i hc
      have hx : x ≠ 0 := by omega
      have hy : y ≠ 0 := by omega
      obtain ⟨_, _, e1, h⟩ := bnd_some h
      obtain ⟨l1, rfl, rfl⟩ := look_some e1
      obtain ⟨_, _, e1, h⟩ := bnd_some h
      obtain ⟨l2, rfl, rfl⟩ := look_some e1
      split at h
      · rename_i hc
        obtain ⟨⟨i, o⟩, _, e1, h⟩ := bnd_some h
        obtain ⟨f1, rfl⟩ := partsN_some e1
        haveI : PcF S x i o := ⟨f1⟩
        obtain ⟨u, S1, e1, h⟩ := bnd_some h
        haveI : Does (levN i u) S1 r S' := ⟨h⟩
        walk_at "w"
        refine w_lk e1 (by omega) ?_
        walk_at "w"
        exact fin q
      · rename_i hc
        split at h
        · rename_i hc
          obtain ⟨⟨i, o⟩, _, e1, h⟩ := bnd_some h
          obtain ⟨f1, rfl⟩ := partsN_some e1
          haveI : PcF S y i o := ⟨f1⟩
          obtain ⟨u, S1, e1, h⟩ := bnd_some h
          haveI : Does (levN u o) S1 r S' := ⟨h⟩
          walk_at "w"
          refine w_lk e1 (by omega) ?_
          walk_at "w"
          exact fin q
        · haveI : Does (forkN x y) S r S' := ⟨h⟩
          walk_at "w"
          exact fin q
class DoesF (m : Nat → M α) (n : outParam Nat) (S : Sh) (r : outParam α) (S' : outParam Sh) : Prop where
  h : m n S = some (r, S')
instance {x y r n : Nat} [d : DoesF (fun n => lkN n x y) n S r S'] : Step (Gam kl bsP defs k 44 [.ref a, .int x, .int y] g Q E) (n + 3 ≤ k ∧ Q (.int r) (gu g a (.shf S'))) := ⟨fun h => w_lk d.h h.1 h.2⟩
theorem w_wl : ∀ {n k : Nat} {g : G} {Q : VG} {E : XG} {S S' : Sh} [sa : At g a (.shf S)] {x r : Nat} (h : wlN n x S = some (r, S')) (hk : n + 7 ≤ k) (q : Q (.int r) (gu g a (.shf S'))), Gam kl bsP defs k 45 [.ref a, .int x] g Q E
  | 0, _, _, _, _, _, _, _, _, _, h, _, _ => nomatch h
  | n + 1, k, g, Q, E, S, S', sa, x, r, h, hk, q => by
    obtain ⟨k, rfl⟩ : ∃ j, k = j + 1 := ⟨k - 1, by omega⟩
    refine gam_of jd.h45 rfl ?_
    show b_without_last _ _ [some (.ref a), some (.int x), none, none] _
    unfold b_without_last
    unfold wlN at h
    obtain ⟨_, _, e1, h⟩ := bnd_some h
    obtain ⟨l1, rfl, rfl⟩ := look_some e1
    split at h
    · rename_i hc
      obtain ⟨rfl, rfl⟩ := ret_some h
      walk_at "w"
      exact fin q
    · rename_i hc
      obtain ⟨⟨i, o⟩, _, e1, h⟩ := bnd_some h
      obtain ⟨f1, rfl⟩ := partsN_some e1
      haveI : PcF S x i o := ⟨f1⟩
      obtain ⟨u, S1, e1, h⟩ := bnd_some h
      haveI : DoesF (fun n => lkN n i u) (n + 3) S1 r S' := ⟨h⟩
      walk_at "w"
      refine w_wl e1 (by omega) ?_
      walk_at "w"
      exact fin q
theorem w_wf : ∀ {n k : Nat} {g : G} {Q : VG} {E : XG} {S S' : Sh} [sa : At g a (.shf S)] {x r : Nat} (h : wfN n x S = some (r, S')) (hk : n + 7 ≤ k) (q : Q (.int r) (gu g a (.shf S'))), Gam kl bsP defs k 46 [.ref a, .int x] g Q E
  | 0, _, _, _, _, _, _, _, _, _, h, _, _ => nomatch h
  | n + 1, k, g, Q, E, S, S', sa, x, r, h, hk, q => by
    obtain ⟨k, rfl⟩ : ∃ j, k = j + 1 := ⟨k - 1, by omega⟩
    refine gam_of jd.h46 rfl ?_
    show b_without_first _ _ [some (.ref a), some (.int x), none, none] _
    unfold b_without_first
    unfold wfN at h
    obtain ⟨_, _, e1, h⟩ := bnd_some h
    obtain ⟨l1, rfl, rfl⟩ := look_some e1
    split at h
    · rename_i hc
      obtain ⟨rfl, rfl⟩ := ret_some h
      walk_at "w"
      exact fin q
    · rename_i hc
      obtain ⟨⟨i, o⟩, _, e1, h⟩ := bnd_some h
      obtain ⟨f1, rfl⟩ := partsN_some e1
      haveI : PcF S x i o := ⟨f1⟩
      obtain ⟨u, S1, e1, h⟩ := bnd_some h
      haveI : DoesF (fun n => lkN n u o) (n + 3) S1 r S' := ⟨h⟩
      walk_at "w"
      refine w_wf e1 (by omega) ?_
      walk_at "w"
      exact fin q
instance {x r n : Nat} [d : DoesF (fun n => wlN n x) n S r S'] : Step (Gam kl bsP defs k 45 [.ref a, .int x] g Q E) (n + 7 ≤ k ∧ Q (.int r) (gu g a (.shf S'))) := ⟨fun h => w_wl d.h h.1 h.2⟩
instance {x r n : Nat} [d : DoesF (fun n => wfN n x) n S r S'] : Step (Gam kl bsP defs k 46 [.ref a, .int x] g Q E) (n + 7 ≤ k ∧ Q (.int r) (gu g a (.shf S'))) := ⟨fun h => w_wf d.h h.1 h.2⟩
theorem w_lt {t : Nat} {x : Str} [d : PcL S t x] (hk : 1 ≤ k) (q : Q (.str x) g) : Gam kl bsP defs k 47 [.ref a, .int t] g Q E := by
  obtain ⟨k, rfl⟩ : ∃ j, k = j + 1 := ⟨k - 1, by omega⟩
  refine gam_of jd.h47 rfl ?_
  show b_leaf_text _ _ [some (.ref a), some (.int t)] _
  unfold b_leaf_text
  walk_at "w"
  exact ⟨.str x, rfl, fin q⟩
instance {t : Nat} {x : Str} [d : PcL S t x] : Step (Gam kl bsP defs k 47 [.ref a, .int t] g Q E) (1 ≤ k ∧ Q (.str x) g) := ⟨fun h => w_lt h.1 h.2⟩
theorem leafN_len {x : Str} {S S' : Sh} {n : Nat} (h : leafN x S = some (n, S')) : x.cps.size ≤ 8 := by
  unfold leafN at h
  split at h
  · rename_i hx; exact hx.2.2
  · cases h
theorem w_po {n x y r : Nat} (h : poN n x y S = some (r, S')) (hk : n + 8 ≤ k) (q : Q (.int r) (gu g a (.shf S'))) : Gam kl bsP defs k 48 [.ref a, .int x, .int y] g Q E := by
  obtain ⟨k, rfl⟩ : ∃ j, k = j + 1 := ⟨k - 1, by omega⟩
  refine gam_of jd.h48 rfl ?_
  show b_poured _ _ [some (.ref a), some (.int x), some (.int y), none, none, none] _
  unfold b_poured
  unfold poN at h
  obtain ⟨_, _, e1, h⟩ := bnd_some h
  obtain ⟨l1, rfl, rfl⟩ := look_some e1
  obtain ⟨u, _, e1, h⟩ := bnd_some h
  obtain ⟨f1, rfl⟩ := ltN_some e1
  haveI : PcL S (laT S x) u := ⟨f1⟩
  obtain ⟨_, _, e1, h⟩ := bnd_some h
  obtain ⟨l2, rfl, rfl⟩ := look_some e1
  obtain ⟨v, _, e1, h⟩ := bnd_some h
  obtain ⟨f1, rfl⟩ := ltN_some e1
  haveI : PcL S (fiT S y) v := ⟨f1⟩
  obtain ⟨m, S1, e1, h⟩ := bnd_some h
  have hlen := leafN_len e1
  have hsz : u.length + v.length ≤ sizeLine := by
    have e : (u ++ v).cps.size = u.length + v.length := by show (u.cps ++ v.cps).size = _; simp [Str.length]
    have hs : sizeLine = 16777216 := rfl
    omega
  haveI : Does (leafN (u ++ v)) S m S1 := ⟨e1⟩
  obtain ⟨w1, S2, e1, h⟩ := bnd_some h
  haveI : DoesF (fun n => wlN n x) n S1 w1 S2 := ⟨e1⟩
  obtain ⟨w2, S3, e1, h⟩ := bnd_some h
  haveI : DoesF (fun n => lkN n w1 m) (n + 3) S2 w2 S3 := ⟨e1⟩
  obtain ⟨w3, S4, e1, h⟩ := bnd_some h
  haveI : DoesF (fun n => wfN n y) n S3 w3 S4 := ⟨e1⟩
  haveI : DoesF (fun n => lkN n w2 w3) (n + 3) S4 r S' := ⟨h⟩
  walk_at "w"
  exact fin q
instance {x y r n : Nat} [d : DoesF (fun n => poN n x y) n S r S'] : Step (Gam kl bsP defs k 48 [.ref a, .int x, .int y] g Q E) (n + 8 ≤ k ∧ Q (.int r) (gu g a (.shf S'))) := ⟨fun h => w_po d.h h.1 h.2⟩
theorem looseN_some {x y : Nat} {b : Bool} (h : looseN x y S = some (b, S')) : S = S' ∧ x ≤ S.length ∧ y ≤ S.length ∧ b = decide (sgT S (laT S x) + sgT S (fiT S y) ≤ 8) := by
  unfold looseN at h
  obtain ⟨_, _, e1, h⟩ := bnd_some h
  obtain ⟨l1, rfl, rfl⟩ := look_some e1
  obtain ⟨_, _, e1, h⟩ := bnd_some h
  obtain ⟨l2, rfl, rfl⟩ := look_some e1
  obtain ⟨_, _, e1, h⟩ := bnd_some h
  obtain ⟨l3, rfl, rfl⟩ := look_some e1
  obtain ⟨_, _, e1, h⟩ := bnd_some h
  obtain ⟨l4, rfl, rfl⟩ := look_some e1
  obtain ⟨rfl, rfl⟩ := ret_some h
  exact ⟨rfl, l1, l2, rfl⟩
theorem w_jo {n x y r : Nat} (h : joN n x y S = some (r, S')) (hk : n + 9 ≤ k) (q : Q (.int r) (gu g a (.shf S'))) : Gam kl bsP defs k 49 [.ref a, .int x, .int y] g Q E := by
  obtain ⟨k, rfl⟩ : ∃ j, k = j + 1 := ⟨k - 1, by omega⟩
  refine gam_of jd.h49 rfl ?_
  show b_joined _ _ [some (.ref a), some (.int x), some (.int y)] _
  unfold b_joined
  unfold joN at h
  obtain ⟨_, _, e1, h⟩ := bnd_some h
  obtain ⟨l1, rfl, rfl⟩ := look_some e1
  obtain ⟨_, _, e1, h⟩ := bnd_some h
  obtain ⟨l2, rfl, rfl⟩ := look_some e1
  split at h
  · cases h
  rename_i hs
  split at h
  · rename_i hc
    obtain ⟨rfl, rfl⟩ := ret_some h
    rw [Int.natCast_add] at q
    by_cases hx : x = 0
    · walk_at "w"
      exact fin q
    · have hy : y = 0 := by omega
      walk_at "w"
      exact fin q
  · rename_i hc
    have hx : x ≠ 0 := by omega
    have hy : y ≠ 0 := by omega
    obtain ⟨b, _, e1, h⟩ := bnd_some h
    obtain ⟨rfl, _, _, _⟩ := looseN_some e1
    haveI : Does (looseN x y) S b S := ⟨e1⟩
    split at h
    · rename_i hb
      subst hb
      haveI : DoesF (fun n => poN n x y) n S r S' := ⟨h⟩
      walk_at "w"
      exact fin q
    · rename_i hb
      have hb : b = false := by simpa using hb
      subst hb
      haveI : DoesF (fun n => lkN n x y) (n + 3) S r S' := ⟨h⟩
      walk_at "w"
      exact fin q
instance {x y r n : Nat} [d : DoesF (fun n => joN n x y) n S r S'] : Step (Gam kl bsP defs k 49 [.ref a, .int x, .int y] g Q E) (n + 9 ≤ k ∧ Q (.int r) (gu g a (.shf S'))) := ⟨fun h => w_jo d.h h.1 h.2⟩
end
end SW
end

section
set_option Elab.async false
set_option linter.all false
set_option maxRecDepth 100000
set_option maxHeartbeats 4000000
/-! Walks: cutting. -/
namespace SW
open PySem L2
local macro_rules | `(tactic| walk_at "w") => `(tactic| repeat first | refine go ?_ | refine ifT ?_ | refine ifF ?_ | refine And.intro (by omega) ?_ | refine ifD (by omega) ?_ | refine ifDn (by omega) ?_ | refine ifN (by omega) ?_ | refine ifNn (by omega) ?_ | refine And.intro (by simp [sizeLine, atOf] <;> omega) ?_ | (intro _ _) | fail)
set_option synthInstance.maxHeartbeats 200000
set_option synthInstance.maxSize 100000
instance {g : G} {a p : Addr} {o u : O} [f : Fr g p] [s : At g a u] : Fr (gu g a o) p := ⟨by
  rw [gun]
  · exact f.h
  · rintro rfl; have := f.h; rw [s.h] at this; cases this⟩
instance (priority := 300) {g g' : G} {a b : Addr} {o : O} [s : SubX b g g'] [t : At g a o] : SubX b (gu g a o) g' := ⟨by rw [gu_at t.h]; exact s.h⟩
instance (priority := 3000) {g g' : G} {a b : Addr} {o : O} [s : SubX a g g'] : SubX b (gu g a o) (gu g' a o) := ⟨fun c u h1 h2 => by
  unfold SW.gu at h2 ⊢
  split
  · rename_i e; rw [if_pos e] at h2; exact h2
  · rename_i e; rw [if_neg e] at h2; exact s.h c u e h2⟩
theorem str_nil {s : Str} : s = Str.ofString "" ↔ s.cps.size = 0 := by
  have e : Str.ofString "" = ⟨#[]⟩ := by kernel_rfl
  rw [e]
  constructor
  · rintro rfl; rfl
  · intro h
    obtain ⟨c⟩ := s
    have : c = #[] := Array.eq_empty_of_size_eq_zero h
    rw [this]
section
variable {kl : Addr → List V → Prop} {defs : Nat → Option FDef} {k : Nat} {g : G} {Q : VG} {E : XG} {a : Addr} {S S' : Sh} [jd : JoD defs] [sa : At g a (.shf S)]
theorem w_ws {t b e : Nat} {u : Unit} (h : wsN t b e S = some (u, S')) (hk : 1 ≤ k) (q : Q .non g) : Gam kl bsP defs k 53 [.ref a, .int t, .int b, .int e] g Q E := by
  obtain ⟨k, rfl⟩ : ∃ j, k = j + 1 := ⟨k - 1, by omega⟩
  refine gam_of jd.h53 rfl ?_
  show b_want_stretch _ _ [some (.ref a), some (.int t), some (.int b), some (.int e), none] _
  unfold b_want_stretch
  unfold wsN at h
  obtain ⟨_, _, e1, h⟩ := bnd_some h
  obtain ⟨l1, rfl, rfl⟩ := look_some e1
  split at h
  rotate_left
  · cases h
  rename_i hc
  walk_at "w"
  exact fin q
theorem wsN_some {t b e : Nat} {u : Unit} (h : wsN t b e S = some (u, S')) : S = S' ∧ t ≤ S.length ∧ b ≤ e ∧ e ≤ sgT S t := by
  unfold wsN at h
  obtain ⟨_, _, e1, h⟩ := bnd_some h
  obtain ⟨l1, rfl, rfl⟩ := look_some e1
  split at h
  · rename_i hc; obtain ⟨_, rfl⟩ := ret_some h; exact ⟨rfl, l1, hc.1, hc.2⟩
  · cases h
instance {t b e : Nat} {u : Unit} [d : Does (wsN t b e) S u S'] : Step (Gam kl bsP defs k 53 [.ref a, .int t, .int b, .int e] g Q E) (1 ≤ k ∧ Q .non g) := ⟨fun h => w_ws d.h h.1 h.2⟩
/-- a part of a leaf, laid -/
theorem lpN_cases {x : Str} {n : Nat} (h : lpN x S = some (n, S')) : (x.cps.size = 0 ∧ n = 0 ∧ S' = S) ∨ (x.cps.size ≠ 0 ∧ leafN x S = some (n, S')) := by
  unfold lpN at h
  split at h
  · rename_i e; obtain ⟨rfl, rfl⟩ := ret_some h; exact .inl ⟨e, rfl, rfl⟩
  · rename_i e; exact .inr ⟨e, h⟩
theorem w_le {t at_ : Nat} {r : Nat × Nat} (h : leN t at_ S = some (r, S')) (hk : 2 ≤ k) (q : ∀ p, Fr (gu g a (.shf S')) p → Q (.ref p) (gu (gu g a (.shf S')) p (.tup [.int r.1, .int r.2]))) : Gam kl bsP defs k 54 [.ref a, .int t, .int at_] g Q E := by
  obtain ⟨k, rfl⟩ : ∃ j, k = j + 1 := ⟨k - 1, by omega⟩
  refine gam_of jd.h54 rfl ?_
  show b_leaf_cut _ _ [some (.ref a), some (.int t), some (.int at_), none, none, none] _
  unfold b_leaf_cut
  unfold leN at h
  obtain ⟨x, _, e1, h⟩ := bnd_some h
  obtain ⟨f1, rfl⟩ := ltN_some e1
  haveI : PcL S t x := ⟨f1⟩
  split at h
  · cases h
  rename_i hx
  have hs : sizeLine = 16777216 := rfl
  have hxl : x.length = x.cps.size := rfl
  obtain ⟨m, S1, e1, h⟩ := bnd_some h
  obtain ⟨n, S2, e2, h⟩ := bnd_some h
  obtain ⟨rfl, rfl⟩ := ret_some h
  generalize hc1 : cutS x none (some (at_ : Int)) = c1 at *
  generalize hc2 : cutS x (some (at_ : Int)) none = c2 at *
  repeat refine go ?_
  refine ⟨by omega, ?_⟩
  repeat refine go ?_
  refine ⟨by simp, fun p fp => ?_⟩
  haveI n1 : NeA a p := NeA.of_fr sa fp
  haveI n2 : NeA p a := n1.symm
  repeat refine go ?_
  refine ⟨by omega, ?_⟩
  repeat refine go ?_
  refine ⟨by omega, ?_⟩
  rw [hc1, hc2]
  repeat refine go ?_
  refine ⟨by simp [sizeLine], fun l fl => ?_⟩
  haveI n3 : NeA p l := NeA.of_fr (g := gu g p (.lst [])) inferInstance fl
  haveI n4 : NeA l p := n3.symm
  haveI n5 : NeA a l := NeA.of_fr (g := gu g p (.lst [])) inferInstance fl
  haveI n6 : NeA l a := n5.symm
  repeat refine go ?_
  let σ : Option V → L2.St := fun v => [some (.ref a), some (.int t), some (.int at_), some (.str x), some (.ref p), v]
  let gl : Sh → List V → G := fun S xs => gu (gu (gu g a (.shf S)) p (.lst xs)) l (.lst [.str c1, .str c2])
  have fp' : ∀ S, Fr (gu g a (.shf S)) p := fun S => inferInstance
  have ad : ∀ S xs, Ad (gu (gu g a (.shf S)) p (.lst xs)) l (.lst [.str c1, .str c2]) := fun S xs => ⟨.inl (by
    rw [gun n4.h, gun n6.h]; exact fl.of_gu.h)⟩
  have e0 : gu (gu g p (.lst [])) l (.lst [.str c1, .str c2]) = gl S [] := by show _ = gu (gu (gu g a (.shf S)) p _) l _; rw [gu_at sa.h]
  rw [e0]
  have turn : ∀ (c : Str) (S S1 : Sh) (xs : List V) (n : Nat) (nx : L2.St → G → Prop) (fn : Nat → SpG) (rt : VG) (bk ct : L2.St → G → Prop), xs.length < 5 → lpN c S = some (n, S1) → nx (σ (some (.str c))) (gl S1 (xs ++ [.int n])) → (fn = Gam kl bsP defs k) →
      ∀ er, sSeq (sIf (tBl (eCmp .Eq (eV 5) (eC (.str "")))) (sSeq (sDrop (eBm .append (eV 4) (lCons (eC (.int 0)) lNil))) sNext) (sSeq (sDrop (eBm .append (eV 4) (lCons (eMt [(0, 21)] (eV 0) (lCons (eV 5) lNil)) lNil))) sNext)) sNext ⟨kl, fn, er⟩ ⟨nx, rt, bk, ct⟩ (σ (some (.str c))) (gl S xs) := by
    intro c S S1 xs n nx fn rt bk ct hx hl hn hf er
    subst hf
    show sSeq _ _ _ _ [some (.ref a), some (.int t), some (.int at_), some (.str x), some (.ref p), some (.str c)] (gu (gu (gu g a (.shf S)) p (.lst xs)) l (.lst [.str c1, .str c2]))
    haveI := ad S xs
    have re : ∀ (S S1 : Sh) (xs ys : List V), gu (gu (gl S xs) a (.shf S1)) p (.lst ys) = gl S1 ys := by
      intro S S1 xs ys
      funext b
      show gu (gu (gu (gu (gu g a _) p _) l _) a _) p _ b = gu (gu (gu g a _) p _) l _ b
      unfold SW.gu
      have m1 := n1.h
      have m3 := n3.h
      have m5 := n5.h
      by_cases b1 : b = p
      · subst b1; simp [m3]
      · by_cases b2 : b = a
        · subst b2; simp [m1, m5]
        · simp [b1, b2]
    have re2 : ∀ (S : Sh) (xs ys : List V), gu (gl S xs) p (.lst ys) = gl S ys := by
      intro S xs ys
      have := re S S xs ys
      rw [gu_at (show gl S xs a = some (.shf S) from by show gu (gu (gu g a _) p _) l _ a = _; rw [gun n5.h, gun n1.h, gus])] at this
      exact this
    repeat refine go ?_
    rcases lpN_cases hl with ⟨h1, h2, h3⟩ | ⟨h1, h2⟩
    · subst h2 h3
      refine ifD (str_nil.mpr h1) ?_
      repeat refine go ?_
      refine ⟨by omega, ?_⟩
      repeat refine go ?_
      have := re2 S1 xs (xs ++ [.int 0])
      rw [show gu (gu (gu (gu g a (.shf S1)) p (.lst xs)) l (.lst [.str c1, .str c2])) p (.lst (xs ++ [.int 0])) = gl S1 (xs ++ [.int 0]) from this]
      exact hn
    · refine ifDn (fun z => h1 (str_nil.mp z)) ?_
      haveI : Does (leafN c) S n S1 := ⟨h2⟩
      repeat refine go ?_
      refine ⟨by omega, ?_⟩
      repeat refine go ?_
      rw [show gu (gu (gu (gu (gu g a (.shf S)) p (.lst xs)) l (.lst [.str c1, .str c2])) a (.shf S1)) p (.lst (xs ++ [.int n])) = gl S1 (xs ++ [.int n]) from re S S1 xs _]
      exact hn
  refine ⟨fun i s g2 => (i = 0 ∧ s = σ none ∧ g2 = gl S []) ∨ (i = 1 ∧ s = σ (some (.str c1)) ∧ g2 = gl S1 [.int m]) ∨ (i = 2 ∧ s = σ (some (.str c2)) ∧ g2 = gl S2 [.int m, .int n]), .inl ⟨rfl, rfl, rfl⟩, ?_⟩
  rintro i s g2 (⟨rfl, rfl, rfl⟩ | ⟨rfl, rfl, rfl⟩ | ⟨rfl, rfl, rfl⟩)
  · refine ⟨.inl gus, ?_⟩
    rw [if_pos (by simp [Sq.len])]
    intro y hy
    cases hy
    refine turn c1 S S1 [] m _ _ _ _ _ (by simp) e1 ?_ rfl _
    exact ⟨_, Sub.refl _, .inr (.inl ⟨rfl, rfl, rfl⟩)⟩
  · refine ⟨.inl gus, ?_⟩
    rw [if_pos (by simp [Sq.len])]
    intro y hy
    cases hy
    refine turn c2 S1 S2 [.int m] n _ _ _ _ _ (by simp) e2 ?_ rfl _
    exact ⟨_, Sub.refl _, .inr (.inr ⟨rfl, rfl, rfl⟩)⟩
  · refine ⟨.inl gus, ?_⟩
    rw [if_neg (by simp [Sq.len])]
    haveI := ad S2 [.int m, .int n]
    dsimp only [σ, gl]
    repeat refine go ?_
    refine ⟨.int m, rfl, ?_⟩
    repeat refine go ?_
    refine ⟨.int n, rfl, ?_⟩
    repeat refine go ?_
    refine ⟨by simp [sizeLine], fun r fr => ?_⟩
    have f1 : Fr (gu g a (.shf S2)) r := fr.of_gu.of_gu
    haveI : Ad (gu g a (.shf S2)) p (.lst [.int m, .int n]) := ⟨.inl (by rw [gun n2.h]; exact fp.h)⟩
    exact fin (q r f1)
end
end SW
end

section
set_option Elab.async false
set_option linter.all false
set_option maxRecDepth 100000
set_option maxHeartbeats 4000000
/-! Walks: cutting. -/
namespace SW
open PySem L2
local macro_rules | `(tactic| walk_at "w") => `(tactic| repeat first | refine go ?_ | refine ifT ?_ | refine ifF ?_ | refine And.intro (by omega) ?_ | refine ifD (by omega) ?_ | refine ifDn (by omega) ?_ | refine ifN (by omega) ?_ | refine ifNn (by omega) ?_ | refine And.intro (by simp [sizeLine, atOf] <;> omega) ?_ | (intro _ _) | fail)
set_option synthInstance.maxHeartbeats 200000
set_option synthInstance.maxSize 100000
class DefAt (defs : Nat → Option FDef) (f : Nat) (d : FDef) : Prop where
  h : defs f = some d
section
variable {kl : Addr → List V → Prop} {defs : Nat → Option FDef} {k : Nat} {g : G} {Q : VG} {E : XG} {a : Addr} {S S' : Sh} [jd : JoD defs] [sa : At g a (.shf S)]
theorem w_ha : ∀ {n k : Nat} {g : G} {Q : VG} {E : XG} {S S' : Sh} [sa : At g a (.shf S)] {t at_ : Nat} {r : Nat × Nat} (h : haN n t at_ S = some (r, S')) (hk : n + 11 ≤ k)
    (q : ∀ p, Fr (gu g a (.shf S')) p → Q (.ref p) (gu (gu g a (.shf S')) p (.tup [.int r.1, .int r.2]))), Gam kl bsP defs k 55 [.ref a, .int t, .int at_] g Q E
  | 0, _, _, _, _, _, _, _, _, _, _, h, _, _ => nomatch h
  | n + 1, k, g, Q, E, S, S', sa, t, at_, r, h, hk, q => by
    obtain ⟨k, rfl⟩ : ∃ j, k = j + 1 := ⟨k - 1, by omega⟩
    refine gam_of jd.h55 rfl ?_
    show b_halves _ _ [some (.ref a), some (.int t), some (.int at_), none, none, none, none, none] _
    unfold b_halves
    unfold haN at h
    split at h
    · rename_i hc
      obtain ⟨rfl, rfl⟩ := ret_some h
      repeat refine go ?_
      refine ifD (by omega) ?_
      repeat refine go ?_
      refine ⟨by simp [sizeLine], fun p fp => ?_⟩
      exact fin (q p inferInstance)
    rename_i h0
    obtain ⟨_, _, e1, h⟩ := bnd_some h
    obtain ⟨l1, rfl, rfl⟩ := look_some e1
    split at h
    · rename_i hc
      obtain ⟨rfl, rfl⟩ := ret_some h
      repeat refine go ?_
      refine ifDn (by omega) ?_
      repeat refine go ?_
      refine ⟨l1, ?_⟩
      repeat refine go ?_
      refine ifD (by omega) ?_
      repeat refine go ?_
      refine ⟨by simp [sizeLine], fun p fp => ?_⟩
      exact fin (q p inferInstance)
    rename_i hs
    obtain ⟨_, _, e1, h⟩ := bnd_some h
    obtain ⟨_, rfl, rfl⟩ := look_some e1
    split at h
    · rename_i hc
      walk_at "w"
      refine w_le h (by omega) fun p fp => ?_
      exact fin (q p fp)
    rename_i hh
    obtain ⟨⟨x, y⟩, _, e1, h⟩ := bnd_some h
    obtain ⟨f1, rfl⟩ := partsN_some e1
    haveI : PcF S t x y := ⟨f1⟩
    dsimp only at h
    obtain ⟨_, _, e1, h⟩ := bnd_some h
    obtain ⟨l2, rfl, rfl⟩ := look_some e1
    split at h
    · rename_i hc
      obtain ⟨⟨u, v⟩, S1, e1, h⟩ := bnd_some h
      dsimp only at h
      obtain ⟨w, S2, e2, h⟩ := bnd_some h
      obtain ⟨rfl, rfl⟩ := ret_some h
      haveI : DoesF (fun n => joN n v y) (n + 1) S1 w S2 := ⟨e2⟩
      walk_at "w"
      refine w_ha e1 (by omega) fun p fp => ?_
      have fp2 : Fr g p := by have := fp.of_gu; exact this.of_gu
      repeat refine go ?_
      refine ⟨rfl, ?_⟩
      repeat refine go ?_
      refine ⟨by omega, ?_⟩
      repeat refine go ?_
      refine ⟨by simp [sizeLine], fun p3 fp3 => ?_⟩
      have fp4 : Fr g p3 := fp3.of_gu.of_gu.of_gu.of_gu
      exact fin (q p3 inferInstance)
    · rename_i hc
      obtain ⟨⟨u, v⟩, S1, e1, h⟩ := bnd_some h
      dsimp only at h
      obtain ⟨w, S2, e2, h⟩ := bnd_some h
      obtain ⟨rfl, rfl⟩ := ret_some h
      haveI : DoesF (fun n => joN n x u) (n + 1) S1 w S2 := ⟨e2⟩
      walk_at "w"
      have e5 : ((at_ : Int) - (sgT S x : Int)) = ((at_ - sgT S x : Nat) : Int) := by omega
      rw [e5]
      refine w_ha e1 (by omega) fun p fp => ?_
      have fp2 : Fr g p := by have := fp.of_gu; exact this.of_gu
      repeat refine go ?_
      refine ⟨rfl, ?_⟩
      repeat refine go ?_
      refine ⟨by omega, ?_⟩
      repeat refine go ?_
      refine ⟨by simp [sizeLine], fun p3 fp3 => ?_⟩
      have fp4 : Fr g p3 := fp3.of_gu.of_gu.of_gu.of_gu
      exact fin (q p3 inferInstance)
instance {t at_ n : Nat} {r : Nat × Nat} [d : DoesF (fun n => haN n t at_) n S r S'] : Step (Gam kl bsP defs k 55 [.ref a, .int t, .int at_] g Q E) (n + 11 ≤ k ∧ ∀ p, Fr (gu g a (.shf S')) p → Q (.ref p) (gu (gu g a (.shf S')) p (.tup [.int r.1, .int r.2]))) := ⟨fun h => w_ha d.h h.1 h.2⟩
theorem w_ct [d56 : DefAt defs 56 d_cut_at] {n t at_ : Nat} {r : Nat × Nat} (h : ctN n t at_ S = some (r, S')) (hk : n + 12 ≤ k)
    (q : ∀ p, Fr (gu g a (.shf S')) p → Q (.ref p) (gu (gu g a (.shf S')) p (.tup [.int r.1, .int r.2]))) : Gam kl bsP defs k 56 [.ref a, .int t, .int at_] g Q E := by
  obtain ⟨k, rfl⟩ : ∃ j, k = j + 1 := ⟨k - 1, by omega⟩
  refine gam_of d56.h rfl ?_
  show b_cut_at _ _ [some (.ref a), some (.int t), some (.int at_)] _
  unfold b_cut_at
  unfold ctN at h
  obtain ⟨_, _, e1, h⟩ := bnd_some h
  obtain ⟨l1, rfl, rfl⟩ := look_some e1
  obtain ⟨u, _, e1, h⟩ := bnd_some h
  obtain ⟨rfl, _, _, _⟩ := wsN_some e1
  haveI : Does (wsN t at_ (sgT S t)) S u S := ⟨e1⟩
  haveI : DoesF (fun n => haN n t at_) n S r S' := ⟨h⟩
  repeat refine go ?_
  refine ⟨l1, ?_⟩
  repeat refine go ?_
  refine ⟨by omega, ?_⟩
  repeat refine go ?_
  refine ⟨by omega, fun p fp => ?_⟩
  exact fin (q p fp)
theorem w_pi [d57 : DefAt defs 57 d_put_in] {n t at_ o r : Nat} (h : piN n t at_ o S = some (r, S')) (hk : n + 14 ≤ k) (q : Q (.int r) (gu g a (.shf S'))) : Gam kl bsP defs k 57 [.ref a, .int t, .int at_, .int o] g Q E := by
  obtain ⟨k, rfl⟩ : ∃ j, k = j + 1 := ⟨k - 1, by omega⟩
  refine gam_of d57.h rfl ?_
  show b_put_in _ _ [some (.ref a), some (.int t), some (.int at_), some (.int o), none, none, none] _
  unfold b_put_in
  unfold piN at h
  obtain ⟨_, _, e1, h⟩ := bnd_some h
  obtain ⟨l1, rfl, rfl⟩ := look_some e1
  obtain ⟨_, _, e1, h⟩ := bnd_some h
  obtain ⟨l2, rfl, rfl⟩ := look_some e1
  obtain ⟨u, _, e1, h⟩ := bnd_some h
  obtain ⟨rfl, _, _, _⟩ := wsN_some e1
  haveI : Does (wsN t at_ (sgT S t)) S u S := ⟨e1⟩
  split at h
  · cases h
  rename_i hc
  obtain ⟨⟨x, y⟩, S1, e1, h⟩ := bnd_some h
  dsimp only at h
  haveI : DoesF (fun n => haN n t at_) n S (x, y) S1 := ⟨e1⟩
  obtain ⟨w, S2, e2, h⟩ := bnd_some h
  haveI : DoesF (fun n => joN n x o) (n + 1) S1 w S2 := ⟨e2⟩
  haveI : DoesF (fun n => joN n w y) (n + 3) S2 r S' := ⟨h⟩
  repeat refine go ?_
  refine ⟨l1, ?_⟩
  repeat refine go ?_
  refine ⟨l2, ?_⟩
  repeat refine go ?_
  refine ⟨l1, ?_⟩
  repeat refine go ?_
  refine ⟨by omega, ?_⟩
  repeat refine go ?_
  refine ifDn (by omega) ?_
  repeat refine go ?_
  refine ⟨by omega, fun p fp => ?_⟩
  have fp2 : Fr g p := fp.of_gu
  repeat refine go ?_
  refine ⟨rfl, ?_⟩
  repeat refine go ?_
  refine ⟨by omega, ?_⟩
  repeat refine go ?_
  refine ⟨by omega, ?_⟩
  exact fin q
theorem w_tk [d58 : DefAt defs 58 d_taken_out] {n t b e r : Nat} (h : tkN n t b e S = some (r, S')) (hk : n + 12 ≤ k) (q : Q (.int r) (gu g a (.shf S'))) : Gam kl bsP defs k 58 [.ref a, .int t, .int b, .int e] g Q E := by
  obtain ⟨k, rfl⟩ : ∃ j, k = j + 1 := ⟨k - 1, by omega⟩
  refine gam_of d58.h rfl ?_
  show b_taken_out _ _ [some (.ref a), some (.int t), some (.int b), some (.int e), none] _
  unfold b_taken_out
  unfold tkN at h
  obtain ⟨u, _, e1, h⟩ := bnd_some h
  obtain ⟨rfl, _, _, _⟩ := wsN_some e1
  haveI : Does (wsN t b e) S u S := ⟨e1⟩
  obtain ⟨⟨x, y⟩, S1, e1, h⟩ := bnd_some h
  haveI : DoesF (fun n => haN n t b) n S (x, y) S1 := ⟨e1⟩
  obtain ⟨⟨x2, y2⟩, S2, e2, h⟩ := bnd_some h
  dsimp only at h
  haveI : DoesF (fun n => haN n t e) n S1 (x2, y2) S2 := ⟨e2⟩
  haveI : DoesF (fun n => joN n x y2) (n + 1) S2 r S' := ⟨h⟩
  repeat refine go ?_
  refine ⟨by omega, ?_⟩
  repeat refine go ?_
  refine ⟨by omega, fun p fp => ?_⟩
  have fp2 : Fr g p := fp.of_gu
  repeat refine go ?_
  refine ⟨.int x, rfl, ?_⟩
  repeat refine go ?_
  refine ⟨by omega, fun p3 fp3 => ?_⟩
  have fp4 : Fr g p3 := fp3.of_gu.of_gu.of_gu
  repeat refine go ?_
  refine ⟨.int y2, rfl, ?_⟩
  repeat refine go ?_
  refine ⟨by omega, ?_⟩
  exact fin q
theorem w_kp [d59 : DefAt defs 59 d_kept_part] {n t b e r : Nat} (h : kpN n t b e S = some (r, S')) (hk : n + 12 ≤ k) (q : Q (.int r) (gu g a (.shf S'))) : Gam kl bsP defs k 59 [.ref a, .int t, .int b, .int e] g Q E := by
  obtain ⟨k, rfl⟩ : ∃ j, k = j + 1 := ⟨k - 1, by omega⟩
  refine gam_of d59.h rfl ?_
  show b_kept_part _ _ [some (.ref a), some (.int t), some (.int b), some (.int e), none] _
  unfold b_kept_part
  unfold kpN at h
  obtain ⟨u, _, e1, h⟩ := bnd_some h
  obtain ⟨rfl, _, _, _⟩ := wsN_some e1
  haveI : Does (wsN t b e) S u S := ⟨e1⟩
  obtain ⟨⟨x, y⟩, S1, e1, h⟩ := bnd_some h
  haveI : DoesF (fun n => haN n t e) n S (x, y) S1 := ⟨e1⟩
  obtain ⟨⟨x2, y2⟩, S2, e2, h⟩ := bnd_some h
  obtain ⟨rfl, rfl⟩ := ret_some h
  haveI : DoesF (fun n => haN n x b) n S1 (x2, y2) S2 := ⟨e2⟩
  repeat refine go ?_
  refine ⟨by omega, ?_⟩
  repeat refine go ?_
  refine ⟨by omega, fun p fp => ?_⟩
  have fp2 : Fr g p := fp.of_gu
  repeat refine go ?_
  refine ⟨.int x, rfl, ?_⟩
  repeat refine go ?_
  refine ⟨by omega, fun p3 fp3 => ?_⟩
  have fp4 : Fr g p3 := fp3.of_gu.of_gu.of_gu
  repeat refine go ?_
  refine ⟨.int y2, rfl, ?_⟩
  exact fin q
end
end SW
end

section
set_option Elab.async false
set_option linter.all false
set_option maxRecDepth 100000
set_option maxHeartbeats 4000000
/-! Slices, ranges. -/
namespace SW
open PySem L2
theorem cutV_to {xs : List V} {n : Nat} : cutV xs none (some (n : Int)) = xs.take n := by
  unfold cutV
  rw [HT.sIx_none, HT.sIx_nat, List.drop_zero, Nat.sub_zero, List.take_eq_take_iff]
  omega
theorem cutV_from {xs : List V} {n : Nat} : cutV xs (some (n : Int)) none = xs.drop n := by
  unfold cutV
  rw [HT.sIx_none, HT.sIx_nat]
  by_cases h : n ≤ xs.length
  · rw [Nat.min_eq_left h, List.take_of_length_le]
    simp
  · rw [Nat.min_eq_right (by omega), List.drop_of_length_le (Nat.le_refl _), List.drop_of_length_le (by omega)]
    simp
theorem cutS_to {x : Str} {n : Nat} : cutS x none (some (n : Int)) = ⟨(x.cps.toList.take n).toArray⟩ := by
  unfold cutS
  rw [HT.sIx_none, HT.sIx_nat, List.drop_zero, Nat.sub_zero]
  have : x.length = x.cps.toList.length := by simp [Str.length]
  rw [this]
  congr 2
  rw [List.take_eq_take_iff]
  omega
theorem cutS_from {x : Str} {n : Nat} : cutS x (some (n : Int)) none = ⟨(x.cps.toList.drop n).toArray⟩ := by
  unfold cutS
  rw [HT.sIx_none, HT.sIx_nat]
  have e : x.length = x.cps.toList.length := by simp [Str.length]
  rw [e]
  congr 2
  by_cases h : n ≤ x.cps.toList.length
  · rw [Nat.min_eq_left h, List.take_of_length_le]
    simp
  · rw [Nat.min_eq_right (by omega), List.drop_of_length_le (Nat.le_refl _), List.drop_of_length_le (by omega)]
    simp
theorem cutS_ab {x : Str} {m n : Nat} (h : m ≤ x.cps.size) : cutS x (some (m : Int)) (some (n : Int)) = ⟨((x.cps.toList.drop m).take (n - m)).toArray⟩ := by
  unfold cutS
  rw [HT.sIx_nat, HT.sIx_nat]
  have e : x.length = x.cps.size := rfl
  rw [e, Nat.min_eq_left h]
  have : (x.cps.toList.drop m).take (min n x.cps.size - m) = (x.cps.toList.drop m).take (n - m) := by
    rw [List.take_eq_take_iff, List.length_drop, Array.length_toList]
    omega
  rw [this]
theorem rng8 {n : Nat} (h : n < 1000000) : RgC 0 n 8 ((n + 7) / 8) := by
  have e : Builtin.Range.rangeSize 0 n 8 = (((n + 7) / 8 : Nat) : Int) := by
    rw [PyProof.Rows.rangeSize_pos (by omega) (by omega)]
    omega
  refine ⟨by omega, by decide, ?_, e⟩
  unfold Builtin.Range.small
  rw [e]
  have fl : ∀ i : Int, -1 ≤ i → i < 2000000 → Builtin.Range.rangeFitsLong i = true := fun i h1 h2 => by
    unfold Builtin.Range.rangeFitsLong
    rw [Bool.and_eq_true, decide_eq_true_eq, decide_eq_true_eq]
    constructor <;> omega
  rw [fl 0 (by omega) (by omega), fl n (by omega) (by omega), fl 8 (by omega) (by omega), fl _ (by omega) (by omega), if_pos (by decide), fl _ (by omega) (by omega)]
  simp
end SW
end

section
set_option Elab.async false
set_option linter.all false
set_option maxRecDepth 100000
set_option maxHeartbeats 4000000
/-! Walks: building, repeating. -/
namespace SW
open PySem L2
local macro_rules | `(tactic| walk_at "w") => `(tactic| repeat first | refine go ?_ | refine ifT ?_ | refine ifF ?_ | refine And.intro (by omega) ?_ | refine ifD (by omega) ?_ | refine ifDn (by omega) ?_ | refine ifN (by omega) ?_ | refine ifNn (by omega) ?_ | refine And.intro (by simp [sizeLine, atOf] <;> omega) ?_ | (intro _ _) | fail)
set_option synthInstance.maxHeartbeats 200000
set_option synthInstance.maxSize 100000
section
variable {kl : Addr → List V → Prop} {defs : Nat → Option FDef} {k : Nat} {g : G} {Q : VG} {E : XG} {a : Addr} {S S' : Sh} [jd : JoD defs] [sa : At g a (.shf S)]
abbrev nV (n : Nat) : V := .int n
theorem w_bf : ∀ {n k : Nat} {g : G} {Q : VG} {E : XG} {S S' : Sh} [sa : At g a (.shf S)] {l : Addr} {xs : List Nat} [la : At g l (.lst (xs.map nV))] {r : Nat} (h : bfN n xs S = some (r, S')) (hk : n + 1 ≤ k) (q : Q (.int r) (gu g a (.shf S'))), Gam kl bsP defs k 50 [.ref a, .ref l] g Q E
  | 0, _, _, _, _, _, _, _, _, _, _, _, h, _, _ => nomatch h
  | n + 1, k, g, Q, E, S, S', sa, l, xs, la, r, h, hk, q => by
    obtain ⟨k, rfl⟩ : ∃ j, k = j + 1 := ⟨k - 1, by omega⟩
    haveI n1 : NeA a l := NeA.of_at sa la (fun z => nomatch z)
    haveI n2 : NeA l a := n1.symm
    refine gam_of jd.h50 rfl ?_
    show b_built_of _ _ [some (.ref a), some (.ref l), none] _
    unfold b_built_of
    unfold bfN at h
    split at h
    · cases h
    rename_i h0
    split at h
    · rename_i h1
      obtain ⟨rfl, rfl⟩ := ret_some h
      match xs, h1 with
      | [y], _ =>
        repeat refine go ?_
        refine ifD rfl ?_
        repeat refine go ?_
        exact ⟨nV y, rfl, fin q⟩
    · rename_i h1
      obtain ⟨u, S1, e1, h⟩ := bnd_some h
      obtain ⟨v, S2, e2, h⟩ := bnd_some h
      haveI : Does (forkN u v) S2 r S' := ⟨h⟩
      repeat refine go ?_
      refine ifDn (by rw [List.length_map]; omega) ?_
      repeat refine go ?_
      refine ⟨⟨by omega, by decide⟩, ?_⟩
      have e3 : ((xs.map nV).length : Int) / 2 = ((xs.length / 2 : Nat) : Int) := by rw [List.length_map]; omega
      rw [e3]
      repeat refine go ?_
      rw [cutV_to, ← List.map_take]
      intro p1 f1
      replace f1 : Fr g p1 := ⟨f1⟩
      repeat refine go ?_
      refine w_bf (xs := xs.take (xs.length / 2)) e1 (by omega) ?_
      repeat refine go ?_
      rw [cutV_from, ← List.map_drop]
      intro p2 f2
      replace f2 : Fr _ p2 := ⟨f2⟩
      repeat refine go ?_
      refine w_bf (xs := xs.drop (xs.length / 2)) e2 (by omega) ?_
      repeat refine go ?_
      exact fin q
theorem lvN_len {x : Str} : ∀ {n : Nat} {S S' : Sh} {l : List Nat}, lvN x n S = some (l, S') → l.length = n
  | 0, S, S', l, h => by obtain ⟨rfl, _⟩ := ret_some h; rfl
  | n + 1, S, S', l, h => by
    obtain ⟨m, S1, e1, h⟩ := bnd_some h
    obtain ⟨v, S2, e2, h⟩ := bnd_some h
    obtain ⟨rfl, _⟩ := ret_some h
    rw [List.length_append, lvN_len e1]; rfl
theorem w_bu {n r : Nat} {x : Str} (h : buN n x S = some (r, S')) (hk : n + 2 ≤ k) (q : Q (.int r) (gu g a (.shf S'))) : Gam kl bsP defs k 51 [.ref a, .str x] g Q E := by
  obtain ⟨k, rfl⟩ : ∃ j, k = j + 1 := ⟨k - 1, by omega⟩
  obtain ⟨k, rfl⟩ : ∃ j, k = j + 1 := ⟨k - 1, by omega⟩
  refine gam_of jd.h51 rfl ?_
  show b_built _ _ [some (.ref a), some (.str x), none, none] _
  unfold b_built
  unfold buN at h
  split at h
  · cases h
  rename_i h0
  have hp : plainB x = true := by
    cases e : plainB x with
    | true => rfl
    | false => exact absurd (.inl e) h0
  have hs : sizeLine = 16777216 := rfl
  have hxl : x.length = x.cps.size := rfl
  have hx : x.cps.size ≤ 10000 := by omega
  repeat refine go ?_
  refine z_is_plain' jd.h2 (by omega) ?_
  rw [hp]
  repeat refine go ?_
  refine ⟨by omega, ?_⟩
  repeat refine go ?_
  refine ifDn (by omega) ?_
  repeat refine go ?_
  split at h
  · rename_i h1
    obtain ⟨rfl, rfl⟩ := ret_some h
    refine ifD (str_nil.mpr h1) ?_
    repeat refine go ?_
    exact fin q
  rename_i h1
  refine ifDn (fun z => h1 (str_nil.mp z)) ?_
  obtain ⟨l, S1, e1, h⟩ := bnd_some h
  repeat refine go ?_
  refine ⟨by simp, fun p fp => ?_⟩
  repeat refine go ?_
  refine ⟨by omega, ?_⟩
  repeat refine go ?_
  refine ⟨0, x.length, 8, (x.cps.size + 7) / 8, rfl, rfl, rfl, rng8 (by omega), ?_⟩
  haveI n1 : NeA a p := NeA.of_fr sa fp
  haveI n2 : NeA p a := n1.symm
  have pre : ∀ i, i ≤ (x.cps.size + 7) / 8 → ∃ li Si, lvN x i S = some (li, Si) := by
    intro i hi
    obtain ⟨d, hd⟩ : ∃ d, (x.cps.size + 7) / 8 = i + d := ⟨(x.cps.size + 7) / 8 - i, by omega⟩
    rw [hd] at e1
    clear hd hi h h0 h1 hx
    induction d generalizing l S1 with
    | zero => exact ⟨_, _, e1⟩
    | succ d ih =>
      obtain ⟨m, S2, e3, _⟩ := bnd_some e1
      exact ih m S2 e3
  refine ⟨fun i s g2 => i ≤ (x.cps.size + 7) / 8 ∧ ∃ li Si v, lvN x i S = some (li, Si) ∧ s = [some (.ref a), some (.str x), some (.ref p), v] ∧ g2 = gu (gu g a (.shf Si)) p (.lst (li.map nV)), ⟨by omega, [], S, none, rfl, rfl, by rw [gu_at sa.h]; rfl⟩, ?_⟩
  rintro i s g2 ⟨hi, li, Si, v, e2, rfl, rfl⟩
  haveI fp2 : Fr (gu g a (.shf Si)) p := inferInstance
  have hll := lvN_len e2
  refine ⟨trivial, ?_⟩
  show if i < (x.cps.size + 7) / 8 then _ else _
  by_cases hlt : i < (x.cps.size + 7) / 8
  · rw [if_pos hlt]
    refine go ?_
    have ei : (0 + (i : Int) * 8) = ((8 * i : Nat) : Int) := by omega
    rw [ei]
    obtain ⟨l3, S3, e3⟩ := pre (i + 1) (by omega)
    have e4 := e3
    unfold lvN at e4
    obtain ⟨m2, S4, e5, e4⟩ := bnd_some e4
    rw [e2] at e5
    cases e5
    obtain ⟨m, S5, e6, e4⟩ := bnd_some e4
    obtain ⟨rfl, rfl⟩ := ret_some e4
    repeat refine go ?_
    refine ⟨by omega, ?_⟩
    have ej : (((8 * i : Nat) : Int) + 8) = ((8 * i + 8 : Nat) : Int) := by omega
    rw [ej]
    haveI : Does (leafN (cutS x (some ((8 * i : Nat) : Int)) (some ((8 * i + 8 : Nat) : Int)))) Si m S5 := ⟨e6⟩
    repeat refine go ?_
    refine ⟨by rw [List.length_map]; omega, ?_⟩
    repeat refine go ?_
    refine ⟨_, Sub.refl _, by omega, li ++ [m], S5, _, e3, rfl, ?_⟩
    rw [List.map_append]
    funext b
    unfold SW.gu
    have m1 := n1.h
    by_cases b1 : b = p
    · subst b1; simp
    · by_cases b2 : b = a
      · subst b2; simp [m1]
      · simp [b1, b2]
  · rw [if_neg hlt]
    have : i = (x.cps.size + 7) / 8 := by omega
    subst this
    rw [e1] at e2
    cases e2
    dsimp only
    repeat refine go ?_
    refine w_bf h (by omega) ?_
    repeat refine go ?_
    haveI : Ad (gu g a (.shf S1)) p (.lst (l.map nV)) := ⟨.inl fp2.h⟩
    exact fin q
theorem log64 {n : Nat} (h : n < 2 ^ 64) : n.log2 < 64 := by
  by_cases h0 : n = 0
  · subst h0; decide
  · exact (Nat.log2_lt h0).mpr h
theorem w_re [d52 : DefAt defs 52 d_repeated] {n t m r : Nat} (h : reN n t m S = some (r, S')) (hm : m < 2 ^ 64) (hs : sgT S t < 2 ^ 64) (hk : n + 10 ≤ k) (q : Q (.int r) (gu g a (.shf S'))) : Gam kl bsP defs k 52 [.ref a, .int t, .int m] g Q E := by
  obtain ⟨k, rfl⟩ : ∃ j, k = j + 1 := ⟨k - 1, by omega⟩
  refine gam_of d52.h rfl ?_
  show b_repeated _ _ [some (.ref a), some (.int t), some (.int m), none, none] _
  unfold b_repeated
  unfold reN at h
  obtain ⟨_, _, e1, h⟩ := bnd_some h
  obtain ⟨l1, rfl, rfl⟩ := look_some e1
  split at h
  · cases h
  rename_i hc
  repeat refine go ?_
  refine ifDn (by omega) ?_
  repeat refine go ?_
  refine ⟨l1, ?_⟩
  repeat refine go ?_
  refine ⟨?_, ?_⟩
  · unfold CMulW
    have h1 := log64 hm
    have h2 := log64 hs
    simp only [Int.natAbs_natCast]
    omega
  repeat refine go ?_
  refine ifDn (by rw [← Int.natCast_mul]; omega) ?_
  repeat refine go ?_
  split at h
  · rename_i ht
    obtain ⟨rfl, rfl⟩ := ret_some h
    refine ⟨fun _ s g2 => s = [some (.ref a), some (.int t), some (.int m), some (.int 0), some (.int t)] ∧ g2 = g, ⟨0, rfl, rfl⟩, ?_⟩
    rintro _ s g2 ⟨rfl, rfl⟩
    repeat refine go ?_
    by_cases h0 : m = 0
    · refine ifDn (by omega) ?_
      repeat refine go ?_
      exact fin q
    · refine ifD (by omega) ?_
      repeat refine go ?_
      refine ifNn (by omega) ?_
      repeat refine go ?_
      exact fin q
  · rename_i ht
    refine ⟨fun j s g2 => ∃ f fo tw S1, j = f ∧ (∃ mm : Nat, s = [some (.ref a), some (.int t), some (.int mm), some (.int (fo : Nat)), some (.int (tw : Nat))] ∧ g2 = gu g a (.shf S1) ∧ rlN n f fo tw mm S1 = some (r, S')), ⟨m + 1, m + 1, 0, t, S, rfl, m, rfl, (gu_at sa.h).symm, h⟩, ?_⟩
    rintro j s g2 ⟨f, fo, tw, S1, rfl, mm, rfl, rfl, h⟩
    cases j with
    | zero => cases h
    | succ j =>
      unfold rlN at h
      repeat refine go ?_
      split at h
      · rename_i h0
        obtain ⟨rfl, rfl⟩ := ret_some h
        refine ifDn (by omega) ?_
        repeat refine go ?_
        exact fin q
      · rename_i h0
        refine ifD (by omega) ?_
        repeat refine go ?_
        refine ifN (by omega) ?_
        obtain ⟨fo2, S2, e1, h⟩ := bnd_some h
        obtain ⟨tw2, S3, e2, h⟩ := bnd_some h
        repeat refine go ?_
        refine ⟨by decide, ?_⟩
        repeat refine go ?_
        have e3 : ((mm : Int) / 2) = ((mm / 2 : Nat) : Int) := by omega
        have fin2 : ∀ (σ : L2.St) (g2 : G), σ = [some (.ref a), some (.int t), some (.int ((mm / 2 : Nat) : Int)), some (.int (fo2 : Nat)), some (.int (tw2 : Nat))] → g2 = gu g a (.shf S3) → ∃ m' g'', m' < j + 1 ∧ Sub g'' g2 ∧ ∃ f fo tw S1, m' = f ∧ (∃ mm : Nat, σ = [some (.ref a), some (.int t), some (.int mm), some (.int (fo : Nat)), some (.int (tw : Nat))] ∧ g'' = gu g a (.shf S1) ∧ rlN n f fo tw mm S1 = some (r, S')) :=
          fun σ g2 h1 h2 => ⟨j, g2, by omega, Sub.refl _, j, fo2, tw2, S3, rfl, mm / 2, h1, h2, h⟩
        have part2 : ∀ (g2 : G), g2 = gu g a (.shf S2) → ∀ (rt : VG) (bk : L2.St → G → Prop) er, sSeq (sAsg (eBin .FloorDiv (eV 2) (eC (.int 2))) (gN 2)) (sSeq (sIf (tBl (eCmp .Gt (eV 2) (eC (.int 0)))) (sSeq (sAsg (eFn 49 (lCons (eV 0) (lCons (eV 4) (lCons (eV 4) lNil)))) (gN 4)) sNext) sNext) sNext) ⟨kl, Gam kl bsP defs k, er⟩
            ⟨fun σ' g' => ∃ m' g'', m' < j + 1 ∧ Sub g'' g' ∧ ∃ f fo tw S1, m' = f ∧ (∃ mm : Nat, σ' = [some (.ref a), some (.int t), some (.int mm), some (.int (fo : Nat)), some (.int (tw : Nat))] ∧ g'' = gu g a (.shf S1) ∧ rlN n f fo tw mm S1 = some (r, S')), rt, bk,
             fun σ' g' => ∃ m' g'', m' < j + 1 ∧ Sub g'' g' ∧ ∃ f fo tw S1, m' = f ∧ (∃ mm : Nat, σ' = [some (.ref a), some (.int t), some (.int mm), some (.int (fo : Nat)), some (.int (tw : Nat))] ∧ g'' = gu g a (.shf S1) ∧ rlN n f fo tw mm S1 = some (r, S'))⟩ [some (.ref a), some (.int t), some (.int mm), some (.int (fo2 : Nat)), some (.int (tw : Nat))] g2 := by
          rintro g2 rfl rt bk er
          repeat refine go ?_
          refine ⟨⟨by omega, by decide⟩, ?_⟩
          rw [e3]
          repeat refine go ?_
          split at e2
          · rename_i h1
            haveI : DoesF (fun n => joN n tw tw) n S2 tw2 S3 := ⟨e2⟩
            refine ifD (by omega) ?_
            repeat refine go ?_
            refine ⟨by omega, ?_⟩
            exact fin2 _ _ rfl gu_gu
          · rename_i h1
            obtain ⟨rfl, rfl⟩ := ret_some e2
            refine ifDn (by omega) ?_
            repeat refine go ?_
            exact fin2 _ _ rfl rfl
        split at e1
        · rename_i h1
          haveI : DoesF (fun n => joN n fo tw) n S1 fo2 S2 := ⟨e1⟩
          refine ifD (by omega) ?_
          repeat refine go ?_
          refine ⟨by omega, ?_⟩
          exact part2 _ gu_gu _ _ _
        · rename_i h1
          obtain ⟨rfl, rfl⟩ := ret_some e1
          refine ifDn (by omega) ?_
          exact part2 _ rfl _ _ _
end
end SW
end

section
set_option Elab.async false
set_option linter.all false
set_option maxRecDepth 100000
set_option maxHeartbeats 4000000
/-! What texts read; level, close shelves. -/
namespace SW
open PySem L2
def getT (acc : List (List Nat)) : Nat → List Nat
  | 0 => []
  | t + 1 => acc.getD t []
def txR (acc : List (List Nat)) (pc : Sum Str (Nat × Nat)) : List Nat := match pc with
  | .inl x => x.cps.toList
  | .inr (a, b) => getT acc a ++ getT acc b
def rdA (S : Sh) : List (List Nat) := S.foldl (fun acc r => acc ++ [txR acc r.pc]) []
/-- the signs of a text -/
def rd (S : Sh) (t : Nat) : List Nat := getT (rdA S) t
theorem rdA_snoc {S : Sh} {r : PRec} : rdA (S ++ [r]) = rdA S ++ [txR (rdA S) r.pc] := by
  unfold rdA; rw [List.foldl_append]; rfl
theorem rdA_pre : ∀ {R S : Sh}, rdA S <+: rdA (S ++ R)
  | [], S => by rw [List.append_nil]; exact List.prefix_rfl
  | r :: R, S => by
    have h := rdA_pre (R := R) (S := S ++ [r])
    rw [List.append_assoc, List.singleton_append] at h
    refine List.IsPrefix.trans ?_ h
    rw [rdA_snoc]
    exact List.prefix_append _ _
theorem foldl_len : ∀ {S : Sh} {acc : List (List Nat)}, (S.foldl (fun acc r => acc ++ [txR acc r.pc]) acc).length = acc.length + S.length
  | [], acc => rfl
  | r :: S, acc => by rw [List.foldl_cons, foldl_len]; simp; omega
theorem rdA_len {S : Sh} : (rdA S).length = S.length := by unfold rdA; rw [foldl_len]; simp
theorem rd_pre {S S' : Sh} {t : Nat} (p : S <+: S') (h : t ≤ S.length) : rd S' t = rd S t := by
  obtain ⟨R, rfl⟩ := p
  obtain ⟨q, hq⟩ := rdA_pre (S := S) (R := R)
  cases t with
  | zero => rfl
  | succ n =>
    have hn : n < (rdA S).length := by rw [rdA_len]; omega
    show (rdA (S ++ R)).getD n [] = (rdA S).getD n []
    rw [← hq, List.getD_eq_getElem?_getD, List.getD_eq_getElem?_getD, List.getElem?_append_left hn]
theorem rd_zero {S : Sh} : rd S 0 = [] := rfl
theorem rd_new {S : Sh} {r : PRec} : rd (S ++ [r]) (S.length + 1) = txR (rdA S) r.pc := by
  show (rdA (S ++ [r])).getD S.length [] = _
  rw [rdA_snoc, List.getD_eq_getElem?_getD, ← rdA_len (S := S)]
  simp
/-- what may lie on a shelf -/
structure LfOk (x : Str) : Prop where
  pl : plainB x = true
  h1 : 1 ≤ x.cps.size
  h8 : x.cps.size ≤ 8
inductive WF : Sh → Prop
  | nil : WF []
  | leaf {S : Sh} {x : Str} : WF S → LfOk x → WF (S ++ [lfR S x])
  | fork {S : Sh} {a b : Nat} : WF S → FkOk S a b → WF (S ++ [fkR S a b])
/-- a leaf -/
structure NdL (S : Sh) (t : Nat) (x : Str) : Prop where
  ok : LfOk x
  pc : pcT S t = some (.inl x)
  sg : sgT S t = x.cps.size
  en : enT S t = nlN x
  lv : lvT S t = 1
  ht : hgT S t = 0
  fi : fiT S t = t
  la : laT S t = t
  rd : rd S t = x.cps.toList
/-- a fork -/
structure NdF (S : Sh) (t a b : Nat) : Prop where
  pc : pcT S t = some (.inr (a, b))
  a0 : 0 < a
  a1 : a < t
  b0 : 0 < b
  b1 : b < t
  sg : sgT S t = sgT S a + sgT S b
  en : enT S t = enT S a + enT S b
  lv : lvT S t = lvT S a + lvT S b
  ht : hgT S t = 1 + max (hgT S a) (hgT S b)
  fi : fiT S t = fiT S a
  la : laT S t = laT S b
  rd : rd S t = rd S a ++ rd S b
  cl : 8 < sgT S (laT S a) + sgT S (fiT S b)
  h1 : hgT S a ≤ hgT S b + 1
  h2 : hgT S b ≤ hgT S a + 1
  most : sgT S t ≤ 1000000000000000000
/-- of each text: its first and last leaves -/
structure Ends (S : Sh) (t : Nat) : Prop where
  f0 : 0 < fiT S t
  f1 : fiT S t ≤ t
  l0 : 0 < laT S t
  l1 : laT S t ≤ t
  fx : ∃ x, NdL S (fiT S t) x
  lx : ∃ x, NdL S (laT S t) x
def Nd (S : Sh) (t : Nat) : Prop := (∃ x, NdL S t x) ∨ ∃ a b, NdF S t a b
section
variable {S S' : Sh} {t a b : Nat} {x : Str}
theorem sg_pre (p : S <+: S') (h : t ≤ S.length) : sgT S' t = sgT S t := rdT_pre p h
theorem en_pre (p : S <+: S') (h : t ≤ S.length) : enT S' t = enT S t := rdT_pre p h
theorem lv_pre (p : S <+: S') (h : t ≤ S.length) : lvT S' t = lvT S t := rdT_pre p h
theorem hg_pre (p : S <+: S') (h : t ≤ S.length) : hgT S' t = hgT S t := rdT_pre p h
theorem fi_pre (p : S <+: S') (h : t ≤ S.length) : fiT S' t = fiT S t := rdT_pre p h
theorem la_pre (p : S <+: S') (h : t ≤ S.length) : laT S' t = laT S t := rdT_pre p h
theorem NdL.le (n : NdL S t x) : 0 < t ∧ t ≤ S.length := pcT_le n.pc
theorem NdF.le (n : NdF S t a b) : 0 < t ∧ t ≤ S.length := pcT_le n.pc
theorem NdL.pre (p : S <+: S') (n : NdL S t x) : NdL S' t x := by
  have h := n.le.2
  refine ⟨n.ok, pcT_pre' p n.pc, ?_, ?_, ?_, ?_, ?_, ?_, ?_⟩
  · rw [sg_pre p h]; exact n.sg
  · rw [en_pre p h]; exact n.en
  · rw [lv_pre p h]; exact n.lv
  · rw [hg_pre p h]; exact n.ht
  · rw [fi_pre p h]; exact n.fi
  · rw [la_pre p h]; exact n.la
  · rw [rd_pre p h]; exact n.rd
theorem Ends.pre (p : S <+: S') (h : t ≤ S.length) (n : Ends S t) : Ends S' t := by
  refine ⟨?_, ?_, ?_, ?_, ?_, ?_⟩
  · rw [fi_pre p h]; exact n.f0
  · rw [fi_pre p h]; exact n.f1
  · rw [la_pre p h]; exact n.l0
  · rw [la_pre p h]; exact n.l1
  · rw [fi_pre p h]; obtain ⟨x, q⟩ := n.fx; exact ⟨x, q.pre p⟩
  · rw [la_pre p h]; obtain ⟨x, q⟩ := n.lx; exact ⟨x, q.pre p⟩
theorem NdF.pre (p : S <+: S') (n : NdF S t a b) (ea : Ends S a) (eb : Ends S b) : NdF S' t a b := by
  have h := n.le.2
  have ha : a ≤ S.length := by have := n.a1; omega
  have hb : b ≤ S.length := by have := n.b1; omega
  have hla : laT S a ≤ S.length := by have := ea.l1; omega
  have hfb : fiT S b ≤ S.length := by have := eb.f1; omega
  refine ⟨pcT_pre' p n.pc, n.a0, n.a1, n.b0, n.b1, ?_, ?_, ?_, ?_, ?_, ?_, ?_, ?_, ?_, ?_, ?_⟩
  · rw [sg_pre p h, sg_pre p ha, sg_pre p hb]; exact n.sg
  · rw [en_pre p h, en_pre p ha, en_pre p hb]; exact n.en
  · rw [lv_pre p h, lv_pre p ha, lv_pre p hb]; exact n.lv
  · rw [hg_pre p h, hg_pre p ha, hg_pre p hb]; exact n.ht
  · rw [fi_pre p h, fi_pre p ha]; exact n.fi
  · rw [la_pre p h, la_pre p hb]; exact n.la
  · rw [rd_pre p h, rd_pre p ha, rd_pre p hb]; exact n.rd
  · rw [la_pre p ha, fi_pre p hb, sg_pre p hla, sg_pre p hfb]; exact n.cl
  · rw [hg_pre p ha, hg_pre p hb]; exact n.h1
  · rw [hg_pre p ha, hg_pre p hb]; exact n.h2
  · rw [sg_pre p h]; exact n.most
theorem lf_new (ok : LfOk x) : NdL (S ++ [lfR S x]) (S.length + 1) x :=
  ⟨ok, pcT_new, rdT_new, rdT_new, rdT_new, rdT_new, rdT_new, rdT_new, rd_new⟩
theorem fk_new (ok : FkOk S a b) (ea : Ends S a) (eb : Ends S b) : NdF (S ++ [fkR S a b]) (S.length + 1) a b := by
  have p : S <+: S ++ [fkR S a b] := List.prefix_append _ _
  obtain ⟨b1, b2, b3, b4, b5, b6, b7, b8, b9, b10⟩ := ok
  refine ⟨pcT_new, b1, by omega, b3, by omega, ?_, ?_, ?_, ?_, ?_, ?_, ?_, ?_, ?_, ?_, ?_⟩
  · rw [sg_pre p b2, sg_pre p b4]; exact rdT_new
  · rw [en_pre p b2, en_pre p b4]; exact rdT_new
  · rw [lv_pre p b2, lv_pre p b4]; exact rdT_new
  · rw [hg_pre p b2, hg_pre p b4]; exact rdT_new
  · rw [fi_pre p b2]; exact rdT_new
  · rw [la_pre p b4]; exact rdT_new
  · rw [rd_pre p b2, rd_pre p b4]; exact rd_new
  · rw [la_pre p b2, fi_pre p b4, sg_pre p b5, sg_pre p b6]; exact b7
  · rw [hg_pre p b2, hg_pre p b4]; exact b8
  · rw [hg_pre p b2, hg_pre p b4]; exact b9
  · rw [show sgT (S ++ [fkR S a b]) (S.length + 1) = _ from rdT_new]; exact b10
theorem NdL.ends (n : NdL S t x) : Ends S t :=
  ⟨by rw [n.fi]; exact n.le.1, by rw [n.fi]; exact Nat.le_refl _, by rw [n.la]; exact n.le.1, by rw [n.la]; exact Nat.le_refl _, ⟨x, by rw [n.fi]; exact n⟩, ⟨x, by rw [n.la]; exact n⟩⟩
theorem NdF.ends (n : NdF S t a b) (ea : Ends S a) (eb : Ends S b) : Ends S t := by
  have h1 := n.a1
  have h2 := n.b1
  have h3 := ea.f1
  have h4 := eb.l1
  exact ⟨by rw [n.fi]; exact ea.f0, by rw [n.fi]; omega, by rw [n.la]; exact eb.l0, by rw [n.la]; omega, by rw [n.fi]; exact ea.fx, by rw [n.la]; exact eb.lx⟩
/-- all pieces are good -/
theorem WF.all (w : WF S) : ∀ t, 0 < t → t ≤ S.length → Nd S t ∧ Ends S t := by
  induction w with
  | nil => intro t h0 h1; simp at h1; omega
  | @leaf S x w ok ih =>
    intro t h0 h1
    have p : S <+: S ++ [lfR S x] := List.prefix_append _ _
    rw [List.length_append, List.length_singleton] at h1
    by_cases h : t ≤ S.length
    · obtain ⟨h2, h3⟩ := ih t h0 h
      refine ⟨?_, h3.pre p h⟩
      rcases h2 with ⟨y, n⟩ | ⟨a, b, n⟩
      · exact .inl ⟨y, n.pre p⟩
      · have := n.a1; have := n.b1
        exact .inr ⟨a, b, n.pre p (ih a n.a0 (by omega)).2 (ih b n.b0 (by omega)).2⟩
    · have : t = S.length + 1 := by omega
      subst this
      exact ⟨.inl ⟨x, lf_new ok⟩, (lf_new ok).ends⟩
  | @fork S a b w ok ih =>
    intro t h0 h1
    have p : S <+: S ++ [fkR S a b] := List.prefix_append _ _
    rw [List.length_append, List.length_singleton] at h1
    by_cases h : t ≤ S.length
    · obtain ⟨h2, h3⟩ := ih t h0 h
      refine ⟨?_, h3.pre p h⟩
      rcases h2 with ⟨y, n⟩ | ⟨a, b, n⟩
      · exact .inl ⟨y, n.pre p⟩
      · have := n.a1; have := n.b1
        exact .inr ⟨a, b, n.pre p (ih a n.a0 (by omega)).2 (ih b n.b0 (by omega)).2⟩
    · have : t = S.length + 1 := by omega
      subst this
      have ea := (ih a ok.a0 ok.a1).2
      have eb := (ih b ok.b0 ok.b1).2
      have n := fk_new ok ea eb
      exact ⟨.inr ⟨a, b, n⟩, n.ends (ea.pre p ok.a1) (eb.pre p ok.b1)⟩
theorem WF.nd (w : WF S) (h0 : 0 < t) (h1 : t ≤ S.length) : Nd S t := (w.all t h0 h1).1
theorem WF.ends (w : WF S) (h0 : 0 < t) (h1 : t ≤ S.length) : Ends S t := (w.all t h0 h1).2
theorem WF.len (w : WF S) : ∀ t, t ≤ S.length → (rd S t).length = sgT S t := by
  intro t
  induction t using Nat.strongRecOn with
  | ind t ih =>
    intro h1
    by_cases h0 : t = 0
    · subst h0; rfl
    · rcases w.nd (by omega) h1 with ⟨x, n⟩ | ⟨a, b, n⟩
      · rw [n.rd, n.sg]; simp
      · have := n.a1; have := n.b1
        rw [n.rd, n.sg, List.length_append, ih a n.a1 (by omega), ih b n.b1 (by omega)]
theorem lkF_pc : ∀ {S : Sh} {n m : Nat} {pc : Sum Str (Nat × Nat)}, lkF n S pc = some m → n < m ∧ m ≤ n + S.length ∧ (S[m - n - 1]?).map (·.pc) = some pc
  | [], n, m, pc, h => by cases h
  | r :: S, n, m, pc, h => by
    unfold lkF at h
    split at h
    · rename_i e
      cases h
      refine ⟨by omega, by simp, ?_⟩
      have : n + 1 - n - 1 = 0 := by omega
      rw [this]; simp [e]
    · obtain ⟨h1, h2, h3⟩ := lkF_pc h
      refine ⟨by omega, by simp; omega, ?_⟩
      have : m - n - 1 = (m - (n + 1) - 1) + 1 := by omega
      rw [this]; simpa using h3
theorem lkP_pc {m : Nat} {pc : Sum Str (Nat × Nat)} (h : lkP S pc = some m) : pcT S m = some pc := by
  obtain ⟨h1, h2, h3⟩ := lkF_pc h
  cases m with
  | zero => omega
  | succ n => simpa [pcT] using h3
theorem NdL.of (w : WF S) (h : pcT S t = some (.inl x)) : NdL S t x := by
  obtain ⟨h0, h1⟩ := pcT_le h
  rcases w.nd h0 h1 with ⟨y, n⟩ | ⟨a, b, n⟩
  · have := n.pc; rw [h] at this; cases this; exact n
  · have := n.pc; rw [h] at this; cases this
theorem NdF.of (w : WF S) (h : pcT S t = some (.inr (a, b))) : NdF S t a b := by
  obtain ⟨h0, h1⟩ := pcT_le h
  rcases w.nd h0 h1 with ⟨y, n⟩ | ⟨a, b, n⟩
  · have := n.pc; rw [h] at this; cases this
  · have := n.pc; rw [h] at this; cases this; exact n
/-- a shelf that has grown -/
structure Up (S S' : Sh) (c : Nat) : Prop where
  wf : WF S'
  pre : S <+: S'
  len : S'.length ≤ S.length + c
theorem Up.refl (w : WF S) : Up S S 0 := ⟨w, List.prefix_rfl, by omega⟩
theorem Up.trans {S1 S2 S3 : Sh} {c d : Nat} (u : Up S1 S2 c) (v : Up S2 S3 d) : Up S1 S3 (c + d) := ⟨v.wf, u.pre.trans v.pre, by have := u.len; have := v.len; omega⟩
theorem Up.mono {c d : Nat} (u : Up S S' c) (h : c ≤ d) : Up S S' d := ⟨u.wf, u.pre, by have := u.len; omega⟩
theorem Up.ge {c : Nat} (u : Up S S' c) : S.length ≤ S'.length := u.pre.length_le
theorem s_leaf (w : WF S) (ok : LfOk x) (room : S.length + 2 < sizeLine) : ∃ n S', leafN x S = some (n, S') ∧ Up S S' 1 ∧ NdL S' n x := by
  unfold leafN
  rw [if_pos ⟨ok.pl, ok.h1, ok.h8⟩]
  unfold putP
  cases h : lkP S (lfR S x).pc with
  | some n => exact ⟨n, S, rfl, (Up.refl w).mono (by omega), NdL.of w (lkP_pc h)⟩
  | none =>
    dsimp only
    rw [if_pos room]
    exact ⟨_, _, rfl, ⟨.leaf w ok, List.prefix_append _ _, by simp⟩, lf_new ok⟩
theorem s_fork (w : WF S) (ok : FkOk S a b) (room : S.length + 2 < sizeLine) : ∃ n S', forkN a b S = some (n, S') ∧ Up S S' 1 ∧ NdF S' n a b := by
  unfold forkN
  rw [if_pos ok]
  unfold putP
  cases h : lkP S (fkR S a b).pc with
  | some n => exact ⟨n, S, rfl, (Up.refl w).mono (by omega), NdF.of w (lkP_pc h)⟩
  | none =>
    dsimp only
    rw [if_pos room]
    exact ⟨_, _, rfl, ⟨.fork w ok, List.prefix_append _ _, by simp⟩, fk_new ok (w.ends ok.a0 ok.a1) (w.ends ok.b0 ok.b1)⟩
end
/-! ### the least signs of a height -/
def minl : Nat → Nat
  | 0 => 1
  | 1 => 2
  | h + 2 => minl (h + 1) + minl h
theorem minl_step : ∀ h, minl h ≤ minl (h + 1)
  | 0 => by decide
  | 1 => by decide
  | h + 2 => by
    have h1 := minl_step h
    have h2 := minl_step (h + 1)
    show minl (h + 1) + minl h ≤ (minl (h + 1) + minl h) + minl (h + 1)
    omega
theorem minl_mono {h k : Nat} (l : h ≤ k) : minl h ≤ minl k := by
  induction k with
  | zero => have : h = 0 := by omega
            subst this; exact Nat.le_refl _
  | succ k ih =>
    by_cases e : h = k + 1
    · subst e; exact Nat.le_refl _
    · exact Nat.le_trans (ih (by omega)) (minl_step k)
theorem WF.minl {S : Sh} (w : WF S) : ∀ t, 0 < t → t ≤ S.length → minl (hgT S t) ≤ sgT S t := by
  intro t
  induction t using Nat.strongRecOn with
  | ind t ih =>
    intro h0 h1
    rcases w.nd h0 h1 with ⟨x, n⟩ | ⟨a, b, n⟩
    · rw [n.ht, n.sg]; exact n.ok.h1
    · have := n.a1; have := n.b1
      have i1 := ih a n.a1 n.a0 (by omega)
      have i2 := ih b n.b1 n.b0 (by omega)
      have h2 := n.h1
      have h3 := n.h2
      rw [n.ht, n.sg]
      by_cases e : hgT S a = hgT S b
      · rw [e, Nat.max_self, Nat.add_comm]
        rw [e] at i1
        cases hb : hgT S b with
        | zero => rw [hb] at i1 i2; show 2 ≤ _; have : SW.minl 0 = 1 := rfl; omega
        | succ k =>
          rw [hb] at i1 i2
          show SW.minl (k + 1) + SW.minl k ≤ _
          have := minl_step k
          omega
      · by_cases e2 : hgT S a < hgT S b
        · have e3 : hgT S b = hgT S a + 1 := by omega
          rw [Nat.max_eq_right (by omega), e3, show 1 + (hgT S a + 1) = hgT S a + 2 by omega]
          rw [e3] at i2
          show SW.minl (hgT S a + 1) + SW.minl (hgT S a) ≤ _
          omega
        · have e3 : hgT S a = hgT S b + 1 := by omega
          rw [Nat.max_eq_left (by omega), e3, show 1 + (hgT S b + 1) = hgT S b + 2 by omega]
          rw [e3] at i1
          show SW.minl (hgT S b + 1) + SW.minl (hgT S b) ≤ _
          omega
def fibs : Nat → Nat × Nat
  | 0 => (1, 2)
  | n + 1 => ((fibs n).2, (fibs n).1 + (fibs n).2)
theorem fibs_eq : ∀ n, fibs n = (minl n, minl (n + 1))
  | 0 => rfl
  | n + 1 => by
    show ((fibs n).2, (fibs n).1 + (fibs n).2) = _
    rw [fibs_eq n]
    show (minl (n + 1), minl n + minl (n + 1)) = (minl (n + 1), minl (n + 1) + minl n)
    rw [Nat.add_comm (minl n)]
theorem minl86 : 1000000000000000000 < minl 86 := by
  have h := fibs_eq 86
  have : 1000000000000000000 < (fibs 86).1 := by decide +kernel
  rw [h] at this
  exact this
/-- no text is higher than 85 -/
theorem WF.high {S : Sh} (w : WF S) {t : Nat} (h1 : t ≤ S.length) : hgT S t ≤ 85 := by
  by_cases h0 : t = 0
  · subst h0; show 0 ≤ 85; omega
  · have h2 := w.minl t (by omega) h1
    rcases w.nd (by omega) h1 with ⟨x, n⟩ | ⟨a, b, n⟩
    · rw [n.ht]; omega
    · have h3 := n.most
      have h4 := minl86
      apply Classical.byContradiction
      intro hc
      have := minl_mono (show 86 ≤ hgT S t by omega)
      omega
end SW
end

section
set_option Elab.async false
set_option linter.all false
set_option maxRecDepth 100000
set_option maxHeartbeats 4000000
/-! Joining: what it reads, how high, how many pieces. -/
namespace SW
open PySem L2
abbrev sz (x : Str) : Nat := x.cps.size
/-- a text: height, first and last leaf, signs -/
structure Tv (S : Sh) (t h : Nat) (f l : Str) (w : List Nat) : Prop where
  t0 : 0 < t
  t1 : t ≤ S.length
  hg : hgT S t = h
  fp : pcT S (fiT S t) = some (.inl f)
  lp : pcT S (laT S t) = some (.inl l)
  rd : rd S t = w
section
variable {S S' : Sh} {t a b h ha hb : Nat} {f l fa la fb lb : Str} {w wa wb : List Nat}
theorem Tv.ex (wf : WF S) (h0 : 0 < t) (h1 : t ≤ S.length) : ∃ f l, Tv S t (hgT S t) f l (SW.rd S t) := by
  have e := wf.ends h0 h1
  obtain ⟨x, hx⟩ := e.fx
  obtain ⟨y, hy⟩ := e.lx
  exact ⟨x, y, h0, h1, rfl, hx.pc, hy.pc, rfl⟩
theorem Tv.pre (p : S <+: S') (v : Tv S t h f l w) : Tv S' t h f l w :=
  ⟨v.t0, Nat.le_trans v.t1 p.length_le, by rw [hg_pre p v.t1]; exact v.hg, by rw [fi_pre p v.t1]; exact pcT_pre' p v.fp, by rw [la_pre p v.t1]; exact pcT_pre' p v.lp, by rw [rd_pre p v.t1]; exact v.rd⟩
theorem Tv.up {c : Nat} (u : Up S S' c) (v : Tv S t h f l w) : Tv S' t h f l w := v.pre u.pre
theorem Tv.fok (wf : WF S) (v : Tv S t h f l w) : LfOk f := (NdL.of wf v.fp).ok
theorem Tv.lok (wf : WF S) (v : Tv S t h f l w) : LfOk l := (NdL.of wf v.lp).ok
theorem Tv.len (wf : WF S) (v : Tv S t h f l w) : sgT S t = w.length := by rw [← wf.len t v.t1, v.rd]
theorem Tv.leaf (wf : WF S) (v : Tv S t 0 f l w) : NdL S t f ∧ f = l ∧ w = f.cps.toList := by
  rcases wf.nd v.t0 v.t1 with ⟨x, n⟩ | ⟨a, b, n⟩
  · have h1 := v.fp
    rw [n.fi, n.pc] at h1
    have h2 := v.lp
    rw [n.la, n.pc] at h2
    cases h1
    cases h2
    exact ⟨n, rfl, by rw [← v.rd, n.rd]⟩
  · have := n.ht; rw [v.hg] at this; omega
theorem NdL.tv (n : NdL S t f) : Tv S t 0 f f f.cps.toList := ⟨n.le.1, n.le.2, n.ht, by rw [n.fi]; exact n.pc, by rw [n.la]; exact n.pc, n.rd⟩
theorem Tv.fork (wf : WF S) (v : Tv S t (h + 1) f l w) : ∃ a b ha hb m n wa wb, pcT S t = some (.inr (a, b)) ∧ Tv S a ha f m wa ∧ Tv S b hb n l wb ∧ 8 < sz m + sz n ∧ h = max ha hb ∧ ha ≤ hb + 1 ∧ hb ≤ ha + 1 ∧ w = wa ++ wb ∧ w.length ≤ 1000000000000000000 := by
  rcases wf.nd v.t0 v.t1 with ⟨x, n⟩ | ⟨a, b, n⟩
  · have := n.ht; rw [v.hg] at this; omega
  · have hc := n.a1
    have hd := n.b1
    have ht := v.t1
    obtain ⟨f1, l1, va⟩ := Tv.ex wf n.a0 (show a ≤ S.length by omega)
    obtain ⟨f2, l2, vb⟩ := Tv.ex wf n.b0 (show b ≤ S.length by omega)
    have e1 := v.fp
    rw [n.fi, va.fp] at e1
    have e2 := v.lp
    rw [n.la, vb.lp] at e2
    cases e1
    cases e2
    refine ⟨a, b, _, _, l1, f2, _, _, n.pc, va, vb, ?_, ?_, n.h1, n.h2, ?_, ?_⟩
    · have := n.cl; rw [(NdL.of wf va.lp).sg, (NdL.of wf vb.fp).sg] at this; exact this
    · have := n.ht; rw [v.hg] at this; omega
    · rw [← v.rd, n.rd]
    · rw [← v.len wf]; exact n.most
theorem f_fork (wf : WF S) (va : Tv S a ha fa la wa) (vb : Tv S b hb fb lb wb) (cl : 8 < sz la + sz fb) (h1 : ha ≤ hb + 1) (h2 : hb ≤ ha + 1) (hs : wa.length + wb.length ≤ 1000000000000000000) (room : S.length + 2 < sizeLine) :
    ∃ r S', forkN a b S = some (r, S') ∧ Up S S' 1 ∧ Tv S' r (1 + max ha hb) fa lb (wa ++ wb) := by
  have nl := NdL.of wf va.lp
  have nf := NdL.of wf vb.fp
  have ok : FkOk S a b := ⟨va.t0, va.t1, vb.t0, vb.t1, nl.le.2, nf.le.2, by rw [nl.sg, nf.sg]; exact cl, by rw [va.hg, vb.hg]; exact h1, by rw [va.hg, vb.hg]; exact h2, by rw [va.len wf, vb.len wf]; exact hs⟩
  obtain ⟨r, S', e, u, n⟩ := s_fork wf ok room
  have va' := va.up u
  have vb' := vb.up u
  refine ⟨r, S', e, u, n.le.1, n.le.2, ?_, ?_, ?_, ?_⟩
  · rw [n.ht, va'.hg, vb'.hg]
  · rw [n.fi]; exact va'.fp
  · rw [n.la]; exact vb'.lp
  · rw [n.rd, va'.rd, vb'.rd]
theorem partsN_of (h : pcT S t = some (.inr (a, b))) : partsN t S = some ((a, b), S) := by
  unfold partsN
  rw [bnd_of (show pcN t S = some (.inr (a, b), S) by unfold pcN; rw [h]; rfl)]
  rfl
theorem look_of {α : Type} {k : Sh → α} (h : t ≤ S.length) : look t k S = some (k S, S) := by unfold look; rw [if_pos h]
theorem htN_of (v : Tv S t h f l w) : htN t S = some ((h : Int), S) := by
  unfold htN
  rw [look_of v.t1, htT_pos v.t0, v.hg]
theorem sgN_of (wf : WF S) (v : Tv S t h f l w) : sgN t S = some (w.length, S) := by
  unfold sgN
  rw [look_of v.t1, v.len wf]
/-- levelled -/
theorem s_lev (wf : WF S) (va : Tv S a ha fa la wa) (vb : Tv S b hb fb lb wb) (cl : 8 < sz la + sz fb) (h1 : ha ≤ hb + 2) (h2 : hb ≤ ha + 2) (hs : wa.length + wb.length ≤ 1000000000000000000) (room : S.length + 5 < sizeLine) :
    ∃ r S' h, levN a b S = some (r, S') ∧ Up S S' 3 ∧ Tv S' r h fa lb (wa ++ wb) ∧ (h = 1 + max ha hb ∨ (h = max ha hb ∧ (ha = hb + 2 ∨ hb = ha + 2))) := by
  have lv : ∀ {β : Type} (k : M β), True := fun _ => trivial
  unfold levN
  rw [bnd_of (htN_of vb), bnd_of (htN_of va)]
  by_cases c1 : hb = ha + 2
  · rw [if_pos (by omega)]
    subst c1
    obtain ⟨i, o, hi, ho, m, n, wi, wo, pc, vi, vo, cl2, e1, e2, e3, rfl, _⟩ := Tv.fork (h := ha + 1) wf vb
    rw [List.length_append] at hs
    unfold trN
    rw [bnd_of (partsN_of pc)]
    dsimp only
    rw [bnd_of (htN_of vi), bnd_of (htN_of vo)]
    by_cases c2 : hi ≤ ho
    · rw [if_pos (by omega)]
      obtain ⟨x, S1, d1, u1, vx⟩ := f_fork wf va vi cl (by omega) (by omega) (by omega) (by omega)
      rw [bnd_of d1]
      have := u1.len
      obtain ⟨y, S2, d2, u2, vy⟩ := f_fork u1.wf vx (vo.up u1) cl2 (by omega) (by omega) (by rw [List.length_append]; omega) (by omega)
      refine ⟨y, S2, _, d2, (u1.trans u2).mono (by omega), by rw [← List.append_assoc]; exact vy, ?_⟩
      omega
    · rw [if_neg (by omega)]
      obtain ⟨k, rfl⟩ : ∃ k, hi = k + 1 := ⟨hi - 1, by omega⟩
      obtain ⟨p, q, hp, hq, m2, n2, wp, wq, pc2, vp, vq, cl3, e4, e5, e6, rfl, _⟩ := Tv.fork wf vi
      rw [List.length_append] at hs
      rw [bnd_of (partsN_of pc2)]
      dsimp only
      obtain ⟨x, S1, d1, u1, vx⟩ := f_fork wf va vp cl (by omega) (by omega) (by omega) (by omega)
      rw [bnd_of d1]
      have := u1.len
      obtain ⟨y, S2, d2, u2, vy⟩ := f_fork u1.wf (vq.up u1) (vo.up u1) cl2 (by omega) (by omega) (by omega) (by omega)
      rw [bnd_of d2]
      have := u2.len
      obtain ⟨z, S3, d3, u3, vz⟩ := f_fork u2.wf (vx.up u2) vy cl3 (by omega) (by omega) (by simp only [List.length_append]; omega) (by omega)
      refine ⟨z, S3, _, d3, ((u1.trans u2).trans u3).mono (by omega), by simpa only [List.append_assoc] using vz, ?_⟩
      omega
  · rw [if_neg (by omega)]
    by_cases c3 : ha = hb + 2
    · rw [if_pos (by omega)]
      subst c3
      obtain ⟨o, i, ho, hi, m, n, wo, wi, pc, vo, vi, cl2, e1, e2, e3, rfl, _⟩ := Tv.fork (h := hb + 1) wf va
      rw [List.length_append] at hs
      unfold tlN
      rw [bnd_of (partsN_of pc)]
      dsimp only
      rw [bnd_of (htN_of vi), bnd_of (htN_of vo)]
      by_cases c2 : hi ≤ ho
      · rw [if_pos (by omega)]
        obtain ⟨x, S1, d1, u1, vx⟩ := f_fork wf vi vb cl (by omega) (by omega) (by omega) (by omega)
        rw [bnd_of d1]
        have := u1.len
        obtain ⟨y, S2, d2, u2, vy⟩ := f_fork u1.wf (vo.up u1) vx cl2 (by omega) (by omega) (by rw [List.length_append]; omega) (by omega)
        refine ⟨y, S2, _, d2, (u1.trans u2).mono (by omega), by rw [List.append_assoc]; exact vy, ?_⟩
        omega
      · rw [if_neg (by omega)]
        obtain ⟨k, rfl⟩ : ∃ k, hi = k + 1 := ⟨hi - 1, by omega⟩
        obtain ⟨p, q, hp, hq, m2, n2, wp, wq, pc2, vp, vq, cl3, e4, e5, e6, rfl, _⟩ := Tv.fork wf vi
        rw [List.length_append] at hs
        rw [bnd_of (partsN_of pc2)]
        dsimp only
        obtain ⟨x, S1, d1, u1, vx⟩ := f_fork wf vo vp cl2 (by omega) (by omega) (by omega) (by omega)
        rw [bnd_of d1]
        have := u1.len
        obtain ⟨y, S2, d2, u2, vy⟩ := f_fork u1.wf (vq.up u1) (vb.up u1) cl (by omega) (by omega) (by omega) (by omega)
        rw [bnd_of d2]
        have := u2.len
        obtain ⟨z, S3, d3, u3, vz⟩ := f_fork u2.wf (vx.up u2) vy cl3 (by omega) (by omega) (by simp only [List.length_append]; omega) (by omega)
        refine ⟨z, S3, _, d3, ((u1.trans u2).trans u3).mono (by omega), by simpa only [List.append_assoc] using vz, ?_⟩
        omega
    · rw [if_neg (by omega)]
      obtain ⟨x, S1, d1, u1, vx⟩ := f_fork wf va vb cl (by omega) (by omega) (by omega) (by omega)
      exact ⟨x, S1, _, d1, u1.mono (by omega), vx, .inl rfl⟩
end
/-- linked -/
theorem s_lk : ∀ {n : Nat} {S : Sh} {a b ha hb : Nat} {fa la fb lb : Str} {wa wb : List Nat} (wf : WF S) (va : Tv S a ha fa la wa) (vb : Tv S b hb fb lb wb) (cl : 8 < sz la + sz fb) (h1 : ha ≤ hb + n) (h2 : hb ≤ ha + n) (hs : wa.length + wb.length ≤ 1000000000000000000)
    (room : S.length + (3 * ((max ha hb - min ha hb) - 1) + 1) + 2 < sizeLine),
    ∃ r S' h, lkN (n + 1) a b S = some (r, S') ∧ Up S S' (3 * ((max ha hb - min ha hb) - 1) + 1) ∧ Tv S' r h fa lb (wa ++ wb) ∧ (h = 1 + max ha hb ∨ (h = max ha hb ∧ (ha ≥ hb + 2 ∨ hb ≥ ha + 2))) := by
  intro n
  induction n with
  | zero =>
    intro S a b ha hb fa la fb lb wa wb wf va vb cl h1 h2 hs room
    have := va.t0
    have := vb.t0
    unfold lkN
    rw [if_neg (by omega), bnd_of (htN_of va), bnd_of (htN_of vb), if_neg (by omega), if_neg (by omega)]
    obtain ⟨x, S1, d1, u1, vx⟩ := f_fork wf va vb cl (by omega) (by omega) (by omega) (by omega)
    exact ⟨x, S1, _, d1, u1.mono (by omega), vx, .inl rfl⟩
  | succ n ih =>
    intro S a b ha hb fa la fb lb wa wb wf va vb cl h1 h2 hs room
    have := va.t0
    have := vb.t0
    unfold lkN
    rw [if_neg (by omega), bnd_of (htN_of va), bnd_of (htN_of vb)]
    by_cases c1 : hb + 1 < ha
    · rw [if_pos (by omega)]
      obtain ⟨k, rfl⟩ : ∃ k, ha = k + 1 := ⟨ha - 1, by omega⟩
      obtain ⟨p, q, hp, hq, m, m2, wp, wq, pc, vp, vq, cl2, e1, e2, e3, rfl, _⟩ := Tv.fork wf va
      rw [List.length_append] at hs
      rw [bnd_of (partsN_of pc)]
      dsimp only
      obtain ⟨x, S1, hx, d1, u1, vx, ex⟩ := ih wf vq vb cl (by omega) (by omega) (by omega) (by omega)
      rw [bnd_of d1]
      have := u1.len
      obtain ⟨y, S2, hy, d2, u2, vy, ey⟩ := s_lev u1.wf (vp.up u1) vx cl2 (by omega) (by omega) (by rw [List.length_append]; omega) (by omega)
      refine ⟨y, S2, hy, d2, (u1.trans u2).mono (by omega), by rw [List.append_assoc]; exact vy, ?_⟩
      omega
    · rw [if_neg (by omega)]
      by_cases c2 : ha + 1 < hb
      · rw [if_pos (by omega)]
        obtain ⟨k, rfl⟩ : ∃ k, hb = k + 1 := ⟨hb - 1, by omega⟩
        obtain ⟨p, q, hp, hq, m, m2, wp, wq, pc, vp, vq, cl2, e1, e2, e3, rfl, _⟩ := Tv.fork wf vb
        rw [List.length_append] at hs
        rw [bnd_of (partsN_of pc)]
        dsimp only
        obtain ⟨x, S1, hx, d1, u1, vx, ex⟩ := ih wf va vp cl (by omega) (by omega) (by omega) (by omega)
        rw [bnd_of d1]
        have := u1.len
        obtain ⟨y, S2, hy, d2, u2, vy, ey⟩ := s_lev u1.wf vx (vq.up u1) cl2 (by omega) (by omega) (by rw [List.length_append]; omega) (by omega)
        refine ⟨y, S2, hy, d2, (u1.trans u2).mono (by omega), by rw [← List.append_assoc]; exact vy, ?_⟩
        omega
      · rw [if_neg (by omega)]
        obtain ⟨x, S1, d1, u1, vx⟩ := f_fork wf va vb cl (by omega) (by omega) (by omega) (by omega)
        exact ⟨x, S1, _, d1, u1.mono (by omega), vx, .inl rfl⟩
end SW
end

section
set_option Elab.async false
set_option linter.all false
set_option maxRecDepth 100000
set_option maxHeartbeats 4000000
/-! Joined: what it reads, how high, how many pieces. -/
namespace SW
open PySem L2
section
variable {S S' : Sh} {t a b h ha hb : Nat} {f l fa la fb lb : Str} {w wa wb : List Nat}
theorem lk_zero {n a : Nat} : lkN (n + 1) a 0 S = some (a, S) := by unfold lkN; rw [if_pos (.inr rfl)]; rfl
theorem lk_zero' {n a : Nat} : lkN (n + 1) 0 a S = some (a, S) := by unfold lkN; rw [if_pos (.inl rfl), Nat.zero_add]; rfl
end
theorem s_wl : ∀ {n : Nat} {S : Sh} {t h : Nat} {f l : Str} {w : List Nat} (wf : WF S) (v : Tv S t h f l w) (hn : h ≤ n) (hs : w.length ≤ 1000000000000000000) (room : S.length + 4 * h + 2 < sizeLine),
    ∃ r S', wlN (n + 1) t S = some (r, S') ∧ Up S S' (4 * h) ∧ ((h = 0 ∧ r = 0) ∨ (0 < h ∧ ∃ h' l' w', Tv S' r h' f l' w' ∧ w = w' ++ l.cps.toList ∧ 8 < sz l' + sz l ∧ h' ≤ h ∧ h ≤ h' + 1)) := by
  intro n
  induction n with
  | zero =>
    intro S t h f l w wf v hn hs room
    unfold wlN
    rw [bnd_of (htN_of v), if_pos (by omega)]
    exact ⟨0, S, rfl, (Up.refl wf).mono (by omega), .inl ⟨by omega, rfl⟩⟩
  | succ n ih =>
    intro S t h f l w wf v hn hs room
    unfold wlN
    rw [bnd_of (htN_of v)]
    by_cases h0 : h = 0
    · rw [if_pos (by omega)]
      exact ⟨0, S, rfl, (Up.refl wf).mono (by omega), .inl ⟨by omega, rfl⟩⟩
    rw [if_neg (by omega)]
    obtain ⟨k, rfl⟩ : ∃ k, h = k + 1 := ⟨h - 1, by omega⟩
    obtain ⟨p, q, hp, hq, m, m2, wp, wq, pc, vp, vq, cl2, e1, e2, e3, rfl, _⟩ := Tv.fork wf v
    rw [List.length_append] at hs
    rw [bnd_of (partsN_of pc)]
    dsimp only
    obtain ⟨x, S1, d1, u1, hx⟩ := ih wf vq (by omega) (by omega) (by omega)
    rw [bnd_of d1]
    rcases hx with ⟨rfl, rfl⟩ | ⟨hq0, h', l', w', vx, rfl, cl3, e4, e5⟩
    · obtain ⟨nl, rfl, rfl⟩ := vq.leaf wf
      refine ⟨p, S1, lk_zero, u1.mono (by omega), .inr ⟨by omega, hp, m, wp, vp.up u1, rfl, cl2, by omega, by omega⟩⟩
    · have := u1.len
      rw [List.length_append] at hs
      obtain ⟨y, S2, hy, d2, u2, vy, ey⟩ := s_lk (n := n + 3) u1.wf (vp.up u1) vx cl2 (by omega) (by omega) (by omega) (by omega)
      refine ⟨y, S2, d2, (u1.trans u2).mono (by omega), .inr ⟨by omega, hy, l', _, vy, by rw [List.append_assoc], cl3, by omega, by omega⟩⟩
theorem s_wf : ∀ {n : Nat} {S : Sh} {t h : Nat} {f l : Str} {w : List Nat} (wf : WF S) (v : Tv S t h f l w) (hn : h ≤ n) (hs : w.length ≤ 1000000000000000000) (room : S.length + 4 * h + 2 < sizeLine),
    ∃ r S', wfN (n + 1) t S = some (r, S') ∧ Up S S' (4 * h) ∧ ((h = 0 ∧ r = 0) ∨ (0 < h ∧ ∃ h' f' w', Tv S' r h' f' l w' ∧ w = f.cps.toList ++ w' ∧ 8 < sz f + sz f' ∧ h' ≤ h ∧ h ≤ h' + 1)) := by
  intro n
  induction n with
  | zero =>
    intro S t h f l w wf v hn hs room
    unfold wfN
    rw [bnd_of (htN_of v), if_pos (by omega)]
    exact ⟨0, S, rfl, (Up.refl wf).mono (by omega), .inl ⟨by omega, rfl⟩⟩
  | succ n ih =>
    intro S t h f l w wf v hn hs room
    unfold wfN
    rw [bnd_of (htN_of v)]
    by_cases h0 : h = 0
    · rw [if_pos (by omega)]
      exact ⟨0, S, rfl, (Up.refl wf).mono (by omega), .inl ⟨by omega, rfl⟩⟩
    rw [if_neg (by omega)]
    obtain ⟨k, rfl⟩ : ∃ k, h = k + 1 := ⟨h - 1, by omega⟩
    obtain ⟨p, q, hp, hq, m, m2, wp, wq, pc, vp, vq, cl2, e1, e2, e3, rfl, _⟩ := Tv.fork wf v
    rw [List.length_append] at hs
    rw [bnd_of (partsN_of pc)]
    dsimp only
    obtain ⟨x, S1, d1, u1, hx⟩ := ih wf vp (by omega) (by omega) (by omega)
    rw [bnd_of d1]
    rcases hx with ⟨rfl, rfl⟩ | ⟨hq0, h', l', w', vx, rfl, cl3, e4, e5⟩
    · obtain ⟨nl, rfl, rfl⟩ := vp.leaf wf
      refine ⟨q, S1, lk_zero', u1.mono (by omega), .inr ⟨by omega, hq, m2, wq, vq.up u1, rfl, cl2, by omega, by omega⟩⟩
    · have := u1.len
      rw [List.length_append] at hs
      obtain ⟨y, S2, hy, d2, u2, vy, ey⟩ := s_lk (n := n + 3) u1.wf vx (vq.up u1) cl2 (by omega) (by omega) (by omega) (by omega)
      refine ⟨y, S2, d2, (u1.trans u2).mono (by omega), .inr ⟨by omega, hy, l', _, vy, by rw [List.append_assoc], cl3, by omega, by omega⟩⟩
section
variable {S S' : Sh} {t a b h ha hb : Nat} {f l fa la fb lb : Str} {w wa wb : List Nat}
theorem cat_tl (x y : Str) : (x ++ y).cps.toList = x.cps.toList ++ y.cps.toList := by
  show (x.cps ++ y.cps).toList = _
  simp
theorem sz_cat (x y : Str) : sz (x ++ y) = sz x + sz y := by
  show (x.cps ++ y.cps).size = _
  simp
theorem plain_cat {x y : Str} (h1 : plainB x = true) (h2 : plainB y = true) : plainB (x ++ y) = true := by
  unfold plainB at *
  rw [cat_tl, List.all_append, h1, h2]; rfl
theorem ltN_of {x : Str} (h : pcT S t = some (.inl x)) : ltN t S = some (x, S) := by
  unfold ltN
  rw [bnd_of (show pcN t S = some (.inl x, S) by unfold pcN; rw [h]; rfl)]
  rfl
theorem laN_of (v : Tv S t h f l w) : laN t S = some (laT S t, S) := look_of v.t1
theorem fiN_of (v : Tv S t h f l w) : fiN t S = some (fiT S t, S) := look_of v.t1
/-- what poured and joined tell -/
structure JoR (S S' : Sh) (r c ha hb : Nat) (fa la fb lb : Str) (wa wb : List Nat) (h : Nat) (f l : Str) : Prop where
  up : Up S S' c
  tv : Tv S' r h f l (wa ++ wb)
  fz : sz fa ≤ sz f
  lz : sz lb ≤ sz l
  h1 : h ≤ max (ha + 1) hb + 1
  h2 : ha = 0 → h ≤ hb + 1
  h3 : hb = 0 → h ≤ ha + 1
  c1 : c ≤ 7 * ha + 4 * hb + 3 * max ha hb + 2
  c2 : ha = 0 → c ≤ 7 * hb + 1
  c3 : hb = 0 → c ≤ 7 * ha + 1
theorem s_po {n : Nat} (wf : WF S) (va : Tv S a ha fa la wa) (vb : Tv S b hb fb lb wb) (lo : sz la + sz fb ≤ 8) (h1 : ha ≤ n) (h2 : hb ≤ n) (hs : wa.length + wb.length ≤ 1000000000000000000)
    (room : S.length + 14 * max ha hb + 10 < sizeLine) : ∃ r S' c h f l, poN (n + 1) a b S = some (r, S') ∧ JoR S S' r c ha hb fa la fb lb wa wb h f l := by
  have okl := va.lok wf
  have okf := vb.fok wf
  unfold poN
  rw [bnd_of (laN_of va), bnd_of (ltN_of va.lp), bnd_of (fiN_of vb), bnd_of (ltN_of vb.fp)]
  have ok : LfOk (la ++ fb) := ⟨plain_cat okl.pl okf.pl, by have := sz_cat la fb; have := okl.h1; show 1 ≤ sz _; rw [sz_cat]; simp only [sz]; omega, by show sz _ ≤ 8; rw [sz_cat]; exact lo⟩
  obtain ⟨m, S1, d1, u1, nm⟩ := s_leaf wf ok (by omega)
  rw [bnd_of d1]
  have vm := nm.tv
  rw [cat_tl] at vm
  have szm := sz_cat la fb
  have := u1.len
  obtain ⟨u, S2, d2, u2, hu⟩ := s_wl u1.wf (va.up u1) h1 (by omega) (by omega)
  rw [bnd_of d2]
  have := u2.len
  have fin : ∀ (v : Nat) (S3 : Sh) (hv c : Nat) (fv : Str) (wv : List Nat), lkN (n + 1 + 3) u m S2 = some (v, S3) → Up S2 S3 c → Tv S3 v hv fv (la ++ fb) wv → wa ++ fb.cps.toList = wv → sz fa ≤ sz fv → hv ≤ ha + 1 → (ha = 0 → hv = 0) → c ≤ 3 * ha →
      ∃ r S' c h f l, (bnd (lkN (n + 1 + 3) u m) fun v => bnd (wfN (n + 1) b) fun w => lkN (n + 1 + 3) v w) S2 = some (r, S') ∧ JoR S S' r c ha hb fa la fb lb wa wb h f l := by
    clear hu
    intro v S3 hv c fv wv d3 u3 vv ew hfz hhv hhv0 hc
    rw [bnd_of d3]
    have := u3.len
    have vb3 := ((vb.up u1).up u2).up u3
    have e5 : wa.length + sz fb = wv.length := by rw [← ew, List.length_append]; simp
    obtain ⟨x, S4, d4, u4, hx⟩ := s_wf u3.wf vb3 h2 (by omega) (by omega)
    rw [bnd_of d4]
    have := u4.len
    rcases hx with ⟨rfl, rfl⟩ | ⟨hb0, h', f', w', vx, rfl, cl, e6, e7⟩
    · obtain ⟨nl, rfl, rfl⟩ := vb3.leaf u3.wf
      refine ⟨v, S4, 1 + 4 * ha + c + 4 * 0, hv, fv, la ++ fb, lk_zero, ((u1.trans u2).trans u3).trans u4, ?_, hfz, ?_, by omega, by omega, by omega, by omega, by omega, by omega⟩
      · rw [ew]; exact vv.up u4
      · rw [szm]; omega
    · rw [List.length_append] at hs
      have e8 : fb.cps.toList.length = sz fb := by simp
      obtain ⟨y, S5, hy, d5, u5, vy, ey⟩ := s_lk (n := n + 3) u4.wf (vv.up u4) vx (by rw [szm]; omega) (by omega) (by omega) (by omega) (by omega)
      refine ⟨y, S5, _, hy, fv, lb, d5, (((u1.trans u2).trans u3).trans u4).trans u5, ?_, hfz, Nat.le_refl _, by omega, by omega, by omega, by omega, by omega, by omega⟩
      rw [← List.append_assoc, ew]; exact vy
  rcases hu with ⟨rfl, rfl⟩ | ⟨ha0, h', l', w', vu, rfl, cl, e4, e5⟩
  · obtain ⟨nl, rfl, rfl⟩ := va.leaf wf
    exact fin m S2 0 0 _ _ lk_zero' ((Up.refl u2.wf)) (vm.up u2) rfl (by rw [szm]; omega) (by omega) (by omega) (by omega)
  · rw [List.length_append] at hs
    have e8 : la.cps.toList.length = sz la := by simp
    have e9 : fb.cps.toList.length ≤ wb.length := by
      by_cases hb0 : hb = 0
      · subst hb0
        obtain ⟨_, _, e⟩ := vb.leaf wf
        rw [e]; exact Nat.le_refl _
      · obtain ⟨_, _, _, _, q⟩ := s_wf (n := n) wf vb h2 (by omega) (by omega)
        rcases q with ⟨q, _⟩ | ⟨_, _, _, _, _, e, _⟩
        · omega
        · rw [e, List.length_append]; omega
    obtain ⟨v, S3, hv, d3, u3, vv, ev⟩ := s_lk (n := n + 3) u2.wf vu (vm.up u2) (by rw [szm]; omega) (by omega) (by omega) (by rw [List.length_append]; omega) (by omega)
    exact fin v S3 hv _ _ _ d3 u3 vv (by simp only [List.append_assoc]) (Nat.le_refl _) (by omega) (by omega) (by omega)
theorem looseN_of (wf : WF S) (va : Tv S a ha fa la wa) (vb : Tv S b hb fb lb wb) : looseN a b S = some (decide (sz la + sz fb ≤ 8), S) := by
  have nl := NdL.of wf va.lp
  have nf := NdL.of wf vb.fp
  unfold looseN
  rw [bnd_of (laN_of va), bnd_of (fiN_of vb), bnd_of (sgN_of wf (nl.tv)), bnd_of (sgN_of wf nf.tv)]
  simp [ret]
theorem s_jo {n : Nat} (wf : WF S) (va : Tv S a ha fa la wa) (vb : Tv S b hb fb lb wb) (h1 : ha ≤ n) (h2 : hb ≤ n) (hs : wa.length + wb.length ≤ 1000000000000000000)
    (room : S.length + 14 * max ha hb + 10 < sizeLine) : ∃ r S' c h f l, joN (n + 1) a b S = some (r, S') ∧ JoR S S' r c ha hb fa la fb lb wa wb h f l ∧ (8 < sz la + sz fb → c ≤ 3 * ((max ha hb - min ha hb) - 1) + 1 ∧ h ≤ 1 + max ha hb ∧ max ha hb ≤ h) := by
  have := va.t0
  have := vb.t0
  unfold joN
  rw [bnd_of (sgN_of wf va), bnd_of (sgN_of wf vb), if_neg (by omega), if_neg (by omega), bnd_of (looseN_of wf va vb)]
  by_cases c : sz la + sz fb ≤ 8
  · rw [if_pos (by simpa using c)]
    obtain ⟨r, S', cc, h, f, l, d, j⟩ := s_po wf va vb c h1 h2 hs room
    exact ⟨r, S', cc, h, f, l, d, j, fun z => by omega⟩
  · rw [if_neg (by simpa using c)]
    obtain ⟨y, S2, hy, d2, u2, vy, ey⟩ := s_lk (n := n + 3) wf va vb (by omega) (by omega) (by omega) hs (by omega)
    exact ⟨y, S2, _, hy, fa, lb, d2, ⟨u2, vy, Nat.le_refl _, Nat.le_refl _, by omega, by omega, by omega, by omega, by omega, by omega⟩, fun _ => ⟨Nat.le_refl _, by omega, by omega⟩⟩
theorem jo_zero {n : Nat} (wf : WF S) (va : Tv S a ha fa la wa) (hs : wa.length ≤ 1000000000000000000) : joN n a 0 S = some (a, S) := by
  unfold joN
  rw [bnd_of (sgN_of wf va), bnd_of (show sgN 0 S = some (0, S) from look_of (Nat.zero_le _)), if_neg (by omega), if_pos (.inr rfl)]
  rfl
theorem jo_zero' {n : Nat} (wf : WF S) (va : Tv S a ha fa la wa) (hs : wa.length ≤ 1000000000000000000) : joN n 0 a S = some (a, S) := by
  unfold joN
  rw [bnd_of (show sgN 0 S = some (0, S) from look_of (Nat.zero_le _)), bnd_of (sgN_of wf va), if_neg (by omega), if_pos (.inl rfl), Nat.zero_add]
  rfl
theorem jo_zeros {n : Nat} : joN n 0 0 S = some (0, S) := by
  unfold joN
  rw [bnd_of (show sgN 0 S = some (0, S) from look_of (Nat.zero_le _)), bnd_of (show sgN 0 S = some (0, S) from look_of (Nat.zero_le _)), if_neg (by omega), if_pos (.inl rfl)]
  rfl
end
end SW
end

section
set_option Elab.async false
set_option linter.all false
set_option maxRecDepth 100000
set_option maxHeartbeats 4000000
/-! Halves: what they read, how high, how many pieces. -/
namespace SW
open PySem L2
/-- a part of a cut text: hm the greatest height, z the least signs of its outer leaf; p a potential -/
inductive PtL (S : Sh) (H hm z : Nat) : Nat → List Nat → Nat → Prop
  | nil : PtL S H hm z 0 [] 0
  | shut {r h : Nat} {f l : Str} {w : List Nat} : Tv S r h f l w → h ≤ hm → z ≤ sz f → PtL S H hm z r w (3 * h + (7 * H + 5))
  | open {r : Nat} {f l : Str} {w : List Nat} : Tv S r 0 f l w → PtL S H hm z r w 0
inductive PtR (S : Sh) (H hm z : Nat) : Nat → List Nat → Nat → Prop
  | nil : PtR S H hm z 0 [] 0
  | shut {r h : Nat} {f l : Str} {w : List Nat} : Tv S r h f l w → h ≤ hm → z ≤ sz l → PtR S H hm z r w (3 * h + (7 * H + 5))
  | open {r : Nat} {f l : Str} {w : List Nat} : Tv S r 0 f l w → PtR S H hm z r w 0
section
variable {S S' : Sh} {H hm z r p : Nat} {w : List Nat}
theorem PtL.up {c : Nat} (u : Up S S' c) (h : PtL S H hm z r w p) : PtL S' H hm z r w p := by
  cases h with
  | nil => exact .nil
  | shut v a b => exact .shut (v.up u) a b
  | «open» v => exact .open (v.up u)
theorem PtR.up {c : Nat} (u : Up S S' c) (h : PtR S H hm z r w p) : PtR S' H hm z r w p := by
  cases h with
  | nil => exact .nil
  | shut v a b => exact .shut (v.up u) a b
  | «open» v => exact .open (v.up u)
theorem PtL.mono {hm' : Nat} (e : hm ≤ hm') (h : PtL S H hm z r w p) : PtL S H hm' z r w p := by
  cases h with
  | nil => exact .nil
  | shut v a b => exact .shut v (by omega) b
  | «open» v => exact .open v
theorem PtR.mono {hm' : Nat} (e : hm ≤ hm') (h : PtR S H hm z r w p) : PtR S H hm' z r w p := by
  cases h with
  | nil => exact .nil
  | shut v a b => exact .shut v (by omega) b
  | «open» v => exact .open v
theorem PtL.le (h : PtL S H hm z r w p) : p ≤ 3 * hm + (7 * H + 5) := by
  cases h <;> omega
theorem PtR.le (h : PtR S H hm z r w p) : p ≤ 3 * hm + (7 * H + 5) := by
  cases h <;> omega
theorem lf_sub {x : Str} {ys : List Nat} (ok : LfOk x) (hs : ∀ c ∈ ys, c ∈ x.cps.toList) (h1 : 1 ≤ ys.length) (h8 : ys.length ≤ 8) : LfOk ⟨ys.toArray⟩ := by
  refine ⟨?_, by simpa using h1, by simpa using h8⟩
  have := ok.pl
  unfold plainB at *
  rw [List.all_eq_true] at *
  intro c hc
  exact this c (hs c (by simpa using hc))
theorem s_le {t at_ : Nat} {x : Str} (wf : WF S) (n : NdL S t x) (h0 : 0 < at_) (h1 : at_ < sz x) (room : S.length + 4 < sizeLine) :
    ∃ a b S' f l, leN t at_ S = some ((a, b), S') ∧ Up S S' 2 ∧ Tv S' a 0 f f (x.cps.toList.take at_) ∧ Tv S' b 0 l l (x.cps.toList.drop at_) := by
  have h8 : sz x ≤ 8 := n.ok.h8
  have e : x.cps.toList.length = sz x := by simp
  unfold leN
  rw [bnd_of (ltN_of n.pc), if_neg (Nat.not_lt.mpr h8), cutS_to, cutS_from]
  have ok1 : LfOk ⟨(x.cps.toList.take at_).toArray⟩ := lf_sub n.ok (fun c hc => List.mem_of_mem_take hc) (by rw [List.length_take]; omega) (by rw [List.length_take]; omega)
  have ok2 : LfOk ⟨(x.cps.toList.drop at_).toArray⟩ := lf_sub n.ok (fun c hc => List.mem_of_mem_drop hc) (by rw [List.length_drop]; omega) (by rw [List.length_drop]; omega)
  obtain ⟨a, S1, d1, u1, n1⟩ := s_leaf wf ok1 (by omega)
  have := u1.len
  obtain ⟨b, S2, d2, u2, n2⟩ := s_leaf u1.wf ok2 (by omega)
  have p1 : lpN ⟨(x.cps.toList.take at_).toArray⟩ S = some (a, S1) := by unfold lpN; rw [if_neg (by have := ok1.h1; omega)]; exact d1
  have p2 : lpN ⟨(x.cps.toList.drop at_).toArray⟩ S1 = some (b, S2) := by unfold lpN; rw [if_neg (by have := ok2.h1; omega)]; exact d2
  rw [bnd_of p1, bnd_of p2]
  have v1 := (n1.tv).up u2
  have v2 := n2.tv
  exact ⟨a, b, S2, _, _, rfl, u1.trans u2, v1, v2⟩
end
theorem s_ha : ∀ {n : Nat} {S : Sh} {t h H at_ : Nat} {f l : Str} {w : List Nat} (wf : WF S) (v : Tv S t h f l w) (hn : h ≤ n) (hH : h ≤ H) (hat : at_ ≤ w.length) (hs : w.length ≤ 1000000000000000000) (room : S.length + 40 * H + 40 < sizeLine),
    ∃ x y S' c pl pr, haN (n + 1) t at_ S = some ((x, y), S') ∧ Up S S' c ∧ PtL S' H h (sz f) x (w.take at_) pl ∧ PtR S' H h (sz l) y (w.drop at_) pr ∧ c ≤ h + 2 + pl + pr := by
  intro n
  induction n with
  | zero =>
    intro S t h H at_ f l w wf v hn hH hat hs room
    have h0 : h = 0 := by omega
    subst h0
    obtain ⟨nl, rfl, rfl⟩ := v.leaf wf
    unfold haN
    by_cases c0 : at_ = 0
    · subst c0
      rw [if_pos rfl]
      exact ⟨0, t, S, 0, _, _, rfl, Up.refl wf, .nil, .shut v (Nat.le_refl _) (Nat.le_refl _), by omega⟩
    rw [if_neg c0, bnd_of (sgN_of wf v)]
    by_cases c1 : at_ = f.cps.toList.length
    · rw [if_pos c1, c1, List.take_length, List.drop_length]
      exact ⟨t, 0, S, 0, _, _, rfl, Up.refl wf, .shut v (Nat.le_refl _) (Nat.le_refl _), .nil, by omega⟩
    rw [if_neg c1, bnd_of (htN_of v), if_pos (show ((0 : Nat) : Int) = 0 from rfl)]
    have e : f.cps.toList.length = sz f := by simp
    obtain ⟨a, b, S', f2, l2, d, u, va, vb⟩ := s_le wf nl (by omega) (show at_ < sz f by omega) (by omega)
    exact ⟨a, b, S', 2, 0, 0, d, u, .open va, .open vb, by omega⟩
  | succ n ih =>
    intro S t h H at_ f l w wf v hn hH hat hs room
    unfold haN
    by_cases c0 : at_ = 0
    · subst c0
      rw [if_pos rfl]
      exact ⟨0, t, S, 0, _, _, rfl, Up.refl wf, .nil, .shut v (Nat.le_refl _) (Nat.le_refl _), by omega⟩
    rw [if_neg c0, bnd_of (sgN_of wf v)]
    by_cases c1 : at_ = w.length
    · rw [if_pos c1, c1, List.take_length, List.drop_length]
      exact ⟨t, 0, S, 0, _, _, rfl, Up.refl wf, .shut v (Nat.le_refl _) (Nat.le_refl _), .nil, by omega⟩
    rw [if_neg c1, bnd_of (htN_of v)]
    by_cases h0 : h = 0
    · subst h0
      rw [if_pos (show ((0 : Nat) : Int) = 0 from rfl)]
      obtain ⟨nl, rfl, rfl⟩ := v.leaf wf
      have e : f.cps.toList.length = sz f := by simp
      obtain ⟨a, b, S', f2, l2, d, u, va, vb⟩ := s_le wf nl (by omega) (show at_ < sz f by omega) (by omega)
      exact ⟨a, b, S', 2, 0, 0, d, u, .open va, .open vb, by omega⟩
    rw [if_neg (by omega)]
    obtain ⟨k, rfl⟩ : ∃ k, h = k + 1 := ⟨h - 1, by omega⟩
    obtain ⟨a, b, ha, hb, m, m2, wa, wb, pc, va, vb, cl, e1, e2, e3, rfl, _⟩ := Tv.fork wf v
    rw [List.length_append] at hs hat c1
    rw [bnd_of (partsN_of pc)]
    dsimp only
    rw [bnd_of (sgN_of wf va)]
    by_cases c2 : at_ < wa.length
    · rw [if_pos c2]
      obtain ⟨x, y, S1, c, pl, pr, d1, u1, L, R, hc⟩ := ih (H := H) wf va (by omega) (by omega) (show at_ ≤ wa.length by omega) (by omega) (by omega)
      rw [bnd_of d1]
      dsimp only
      have u1l := u1.len
      have lle := L.le
      have rle := R.le
      have hd : (wa.drop at_).length = wa.length - at_ := List.length_drop
      rw [List.take_append_of_le_length (by omega), List.drop_append_of_le_length (by omega)]
      have vb1 := vb.up u1
      generalize wa.drop at_ = wd at *
      cases R with
      | nil => simp at hd; omega
      | @shut _ h' f' l' _ vy e5 e6 =>
        obtain ⟨q, S2, c2, hh, ff, ll, d2, J, K⟩ := s_jo (n := n + 1) u1.wf vy vb1 (by omega) (by omega) (by omega) (by omega)
        obtain ⟨k1, k2, k3⟩ := K (by omega)
        rw [bnd_of d2]
        exact ⟨x, q, S2, c + c2, pl, _, rfl, u1.trans J.up, (L.up J.up).mono (by omega), .shut J.tv (by omega) J.lz, by omega⟩
      | «open» vy =>
        obtain ⟨q, S2, c2, hh, ff, ll, d2, J, K⟩ := s_jo (n := n + 1) u1.wf vy vb1 (by omega) (by omega) (by omega) (by omega)
        have k1 := J.c2 rfl
        have k2 := J.h2 rfl
        rw [bnd_of d2]
        exact ⟨x, q, S2, c + c2, pl, _, rfl, u1.trans J.up, (L.up J.up).mono (by omega), .shut J.tv (by omega) J.lz, by omega⟩
    · rw [if_neg c2]
      obtain ⟨x, y, S1, c, pl, pr, d1, u1, L, R, hc⟩ := ih (H := H) wf vb (by omega) (by omega) (show at_ - wa.length ≤ wb.length by omega) (by omega) (by omega)
      rw [bnd_of d1]
      dsimp only
      have u1l := u1.len
      have lle := L.le
      have rle := R.le
      have hd : (wb.take (at_ - wa.length)).length = at_ - wa.length := by rw [List.length_take]; omega
      rw [List.take_append, List.drop_append, List.take_of_length_le (show wa.length ≤ at_ by omega), List.drop_of_length_le (show wa.length ≤ at_ by omega), List.nil_append]
      have va1 := va.up u1
      generalize wb.take (at_ - wa.length) = wd at *
      cases L with
      | nil =>
        rw [List.append_nil]
        rw [bnd_of (jo_zero u1.wf va1 (by omega))]
        refine ⟨a, y, S1, c, _, pr, rfl, u1, .shut va1 (by omega) (Nat.le_refl _), R.mono (by omega), by omega⟩
      | @shut _ h' f' l' _ vx e5 e6 =>
        obtain ⟨q, S2, c2, hh, ff, ll, d2, J, K⟩ := s_jo (n := n + 1) u1.wf va1 vx (by omega) (by omega) (by omega) (by omega)
        obtain ⟨k1, k2, k3⟩ := K (by omega)
        rw [bnd_of d2]
        exact ⟨q, y, S2, c + c2, _, pr, rfl, u1.trans J.up, .shut J.tv (by omega) J.fz, (R.up J.up).mono (by omega), by omega⟩
      | «open» vx =>
        obtain ⟨q, S2, c2, hh, ff, ll, d2, J, K⟩ := s_jo (n := n + 1) u1.wf va1 vx (by omega) (by omega) (by omega) (by omega)
        have k1 := J.c3 rfl
        have k2 := J.h3 rfl
        rw [bnd_of d2]
        exact ⟨q, y, S2, c + c2, _, pr, rfl, u1.trans J.up, .shut J.tv (by omega) J.fz, (R.up J.up).mono (by omega), by omega⟩
end SW
end

section
set_option Elab.async false
set_option linter.all false
set_option maxRecDepth 100000
set_option maxHeartbeats 4000000
/-! Deeds on texts, empty ones too. -/
namespace SW
open PySem L2
/-- the height of a text and one more; 0 for the empty text -/
def hp (S : Sh) (t : Nat) : Nat := if t = 0 then 0 else hgT S t + 1
/-- what a deed tells: a text of these signs -/
structure Gd (S S' : Sh) (c r : Nat) (w : List Nat) : Prop where
  up : Up S S' c
  r1 : r ≤ S'.length
  rd : rd S' r = w
section
variable {S S' : Sh} {t a b r c at_ n : Nat} {w wa wb : List Nat} {x : Str}
theorem htT_hp (S : Sh) (t : Nat) : htT S t = (hp S t : Int) - 1 := by
  cases t with
  | zero => rfl
  | succ n => show ((hgT S (n + 1) : Nat) : Int) = ((if n + 1 = 0 then 0 else hgT S (n + 1) + 1 : Nat) : Int) - 1; rw [if_neg (by omega)]; omega
theorem hp_pos (h : 0 < t) : hp S t = hgT S t + 1 := by unfold hp; rw [if_neg (by omega)]
theorem hp_le (wf : WF S) (h : t ≤ S.length) : hp S t ≤ 86 := by
  unfold hp
  split
  · omega
  · have := wf.high h; omega
theorem hp_up (u : Up S S' c) (h : t ≤ S.length) : hp S' t = hp S t := by
  unfold hp
  rw [hg_pre u.pre h]
theorem Tv.hp {h : Nat} {f l : Str} (v : Tv S t h f l w) : SW.hp S t = h + 1 := by rw [hp_pos v.t0, v.hg]
/-- joined, of any texts -/
theorem s_joT (wf : WF S) (ha : a ≤ S.length) (hb : b ≤ S.length) (hn : 85 ≤ n) (hs : (rd S a).length + (rd S b).length ≤ 1000000000000000000) (room : S.length + 14 * max (hp S a) (hp S b) + 10 < sizeLine) :
    ∃ r S' c, joN (n + 1) a b S = some (r, S') ∧ Gd S S' c r (rd S a ++ rd S b) ∧ c ≤ 14 * max (hp S a) (hp S b) ∧ hp S' r ≤ 3 * max (hp S a) (hp S b) := by
  by_cases a0 : a = 0
  · subst a0
    by_cases b0 : b = 0
    · subst b0
      exact ⟨0, S, 0, jo_zeros, ⟨Up.refl wf, Nat.zero_le _, rfl⟩, by omega, by omega⟩
    · obtain ⟨f, l, v⟩ := Tv.ex wf (show 0 < b by omega) hb
      exact ⟨b, S, 0, jo_zero' wf v (by simpa [rd_zero] using hs), ⟨Up.refl wf, hb, by rw [rd_zero]; rfl⟩, by omega, by omega⟩
  · obtain ⟨f, l, v⟩ := Tv.ex wf (show 0 < a by omega) ha
    by_cases b0 : b = 0
    · subst b0
      exact ⟨a, S, 0, jo_zero wf v (by simpa [rd_zero] using hs), ⟨Up.refl wf, ha, by rw [rd_zero, List.append_nil]⟩, by omega, by omega⟩
    · obtain ⟨f2, l2, v2⟩ := Tv.ex wf (show 0 < b by omega) hb
      have h1 := wf.high ha
      have h2 := wf.high hb
      rw [v.hp, v2.hp] at room ⊢
      obtain ⟨r, S', c, h, f, l, d, J, _⟩ := s_jo (n := n) wf v v2 (by omega) (by omega) hs (by omega)
      have j1 := J.h1
      have j2 := J.c1
      exact ⟨r, S', c, d, ⟨J.up, J.tv.t1, J.tv.rd⟩, by omega, by rw [J.tv.hp]; omega⟩
/-- halves, of any text -/
theorem s_haT (wf : WF S) (ht : t ≤ S.length) (hn : 85 ≤ n) (hat : at_ ≤ (rd S t).length) (room : S.length + 40 * hp S t + 40 < sizeLine) :
    ∃ x y S' c, haN (n + 1) t at_ S = some ((x, y), S') ∧ Gd S S' c x ((rd S t).take at_) ∧ Gd S S' c y ((rd S t).drop at_) ∧ c ≤ 21 * hp S t ∧ hp S' x ≤ hp S t ∧ hp S' y ≤ hp S t := by
  by_cases t0 : t = 0
  · subst t0
    have : at_ = 0 := by simpa [rd_zero] using hat
    subst this
    refine ⟨0, 0, S, 0, by unfold haN; rw [if_pos rfl]; rfl, ⟨Up.refl wf, Nat.zero_le _, rfl⟩, ⟨Up.refl wf, Nat.zero_le _, rfl⟩, by omega, by omega, by omega⟩
  · obtain ⟨f, l, v⟩ := Tv.ex wf (show 0 < t by omega) ht
    have h1 := wf.high ht
    rw [v.hp] at room ⊢
    have hs : (rd S t).length ≤ 1000000000000000000 := by
      rw [wf.len t ht]
      rcases wf.nd (show 0 < t by omega) ht with ⟨x, n⟩ | ⟨a, b, n⟩
      · rw [n.sg]; have := n.ok.h8; omega
      · exact n.most
    obtain ⟨x, y, S', c, pl, pr, d, u, L, R, hc⟩ := s_ha (n := n) (H := hgT S t) wf v (by omega) (by omega) hat hs (by omega)
    have lle := L.le
    have rle := R.le
    have gx : Gd S S' c x ((rd S t).take at_) ∧ hp S' x ≤ hgT S t + 1 := by
      generalize (rd S t).take at_ = w1 at *
      cases L with
      | nil => exact ⟨⟨u, Nat.zero_le _, rfl⟩, by unfold hp; rw [if_pos rfl]; omega⟩
      | shut v a b => exact ⟨⟨u, v.t1, v.rd⟩, by rw [v.hp]; omega⟩
      | «open» v => exact ⟨⟨u, v.t1, v.rd⟩, by rw [v.hp]; omega⟩
    have gy : Gd S S' c y ((rd S t).drop at_) ∧ hp S' y ≤ hgT S t + 1 := by
      generalize (rd S t).drop at_ = w1 at *
      cases R with
      | nil => exact ⟨⟨u, Nat.zero_le _, rfl⟩, by unfold hp; rw [if_pos rfl]; omega⟩
      | shut v a b => exact ⟨⟨u, v.t1, v.rd⟩, by rw [v.hp]; omega⟩
      | «open» v => exact ⟨⟨u, v.t1, v.rd⟩, by rw [v.hp]; omega⟩
    exact ⟨x, y, S', c, d, gx.1, gy.1, by omega, gx.2, gy.2⟩
theorem sgN_T (wf : WF S) (h : t ≤ S.length) : sgN t S = some ((rd S t).length, S) := by unfold sgN; rw [look_of h, ← wf.len t h]
theorem wsN_T (wf : WF S) (h : t ≤ S.length) {b e : Nat} (h1 : b ≤ e) (h2 : e ≤ (rd S t).length) : wsN t b e S = some ((), S) := by
  unfold wsN
  rw [bnd_of (sgN_T wf h), if_pos ⟨h1, h2⟩]
  rfl
theorem Gd.hp_le {c r : Nat} {w : List Nat} (g : Gd S S' c r w) : hp S' r ≤ 86 := SW.hp_le g.up.wf g.r1
theorem s_ct (wf : WF S) (ht : t ≤ S.length) (hn : 85 ≤ n) (hat : at_ ≤ (rd S t).length) (room : S.length + 4000 < sizeLine) :
    ∃ x y S' c, ctN (n + 1) t at_ S = some ((x, y), S') ∧ Gd S S' c x ((rd S t).take at_) ∧ Gd S S' c y ((rd S t).drop at_) ∧ c ≤ 64 * hp S t := by
  have := hp_le wf ht
  obtain ⟨x, y, S', c, d, gx, gy, hc, _, _⟩ := s_haT (n := n) wf ht hn hat (by omega)
  refine ⟨x, y, S', c, ?_, gx, gy, by omega⟩
  unfold ctN
  rw [bnd_of (sgN_T wf ht), bnd_of (wsN_T wf ht hat (Nat.le_refl _))]
  exact d
theorem rd_up {c : Nat} (u : Up S S' c) (h : t ≤ S.length) : rd S' t = rd S t := rd_pre u.pre h
theorem s_pi {o : Nat} (wf : WF S) (ht : t ≤ S.length) (ho : o ≤ S.length) (hn : 85 ≤ n) (hat : at_ ≤ (rd S t).length) (hs : (rd S t).length + (rd S o).length ≤ 1000000000000000000) (room : S.length + 8000 < sizeLine) :
    ∃ r S' c, piN (n + 1) t at_ o S = some (r, S') ∧ Gd S S' c r ((rd S t).take at_ ++ rd S o ++ (rd S t).drop at_) ∧ c ≤ 200 * max (hp S t) (hp S o) := by
  have h1 := hp_le wf ht
  have h2 := hp_le wf ho
  obtain ⟨x, y, S1, c1, d1, gx, gy, hc1, hx, hy⟩ := s_haT (n := n) wf ht hn hat (by omega)
  have l1 := gx.up.len
  have l1' := gx.up.ge
  have ho1 := hp_up gx.up ho
  have e1 : (rd S1 x).length = at_ := by rw [gx.rd, List.length_take]; omega
  have e2 : (rd S1 y).length = (rd S t).length - at_ := by rw [gy.rd, List.length_drop]
  have e3 := rd_up gx.up ho
  obtain ⟨z, S2, c2, d2, gz, hc2, hz⟩ := s_joT (n := n + 1) gx.up.wf gx.r1 (show o ≤ S1.length by omega) (by omega) (by rw [e1, e3]; omega) (by omega)
  have l2 := gz.up.len
  have l2' := gz.up.ge
  have hy2 := hp_up gz.up gy.r1
  have e4 := rd_up gz.up gy.r1
  obtain ⟨r, S3, c3, d3, gr, hc3, hr⟩ := s_joT (n := n + 3) gz.up.wf gz.r1 (show y ≤ S2.length by have := gy.r1; omega) (by omega) (by rw [gz.rd, e4, List.length_append, e1, e2, e3]; omega) (by omega)
  refine ⟨r, S3, c1 + c2 + c3, ?_, ⟨(gx.up.trans gz.up).trans gr.up, gr.r1, ?_⟩, by omega⟩
  · unfold piN
    rw [bnd_of (sgN_T wf ht), bnd_of (sgN_T wf ho), bnd_of (wsN_T wf ht hat (Nat.le_refl _)), if_neg (by omega), bnd_of d1]
    dsimp only
    rw [bnd_of d2]
    exact d3
  · rw [gr.rd, gz.rd, e4, gx.rd, gy.rd, e3]
theorem s_tk {b e : Nat} (wf : WF S) (ht : t ≤ S.length) (hn : 85 ≤ n) (hb : b ≤ e) (he : e ≤ (rd S t).length) (room : S.length + 8000 < sizeLine) :
    ∃ r S' c, tkN (n + 1) t b e S = some (r, S') ∧ Gd S S' c r ((rd S t).take b ++ (rd S t).drop e) ∧ c ≤ 200 * hp S t := by
  have h1 := hp_le wf ht
  obtain ⟨x, y, S1, c1, d1, gx, gy, hc1, hx, hy⟩ := s_haT (n := n) wf ht hn (show b ≤ _ by omega) (by omega)
  have l1 := gx.up.len
  have l1' := gx.up.ge
  have ht1 := hp_up gx.up ht
  have e3 := rd_up gx.up ht
  obtain ⟨x2, y2, S2, c2, d2, gx2, gy2, hc2, hx2, hy2⟩ := s_haT (n := n) (at_ := e) gx.up.wf (show t ≤ S1.length by omega) hn (by rw [e3]; exact he) (by omega)
  have l2 := gx2.up.len
  have l2' := gx2.up.ge
  have e4 := rd_up gx2.up gx.r1
  have hx3 := hp_up gx2.up gx.r1
  have hs : (rd S t).length ≤ 1000000000000000000 := by
    by_cases t0 : t = 0
    · subst t0; rw [rd_zero]; simp
    rw [wf.len t ht]
    rcases wf.nd (show 0 < t by omega) ht with ⟨x, n⟩ | ⟨a, b, n⟩
    · rw [n.sg]; have := n.ok.h8; omega
    · exact n.most
  have e5 : (rd S2 x).length + (rd S2 y2).length ≤ 1000000000000000000 := by
    rw [e4, gx.rd, gy2.rd, e3, List.length_take, List.length_drop]; omega
  obtain ⟨r, S3, c3, d3, gr, hc3, hr⟩ := s_joT (n := n + 1) gx2.up.wf (show x ≤ S2.length by have := gx.r1; omega) gy2.r1 (by omega) e5 (by omega)
  refine ⟨r, S3, c1 + c2 + c3, ?_, ⟨(gx.up.trans gx2.up).trans gr.up, gr.r1, ?_⟩, by omega⟩
  · unfold tkN
    rw [bnd_of (wsN_T wf ht hb he), bnd_of d1, bnd_of d2]
    exact d3
  · rw [gr.rd, e4, gx.rd, gy2.rd, e3]
theorem s_kp {b e : Nat} (wf : WF S) (ht : t ≤ S.length) (hn : 85 ≤ n) (hb : b ≤ e) (he : e ≤ (rd S t).length) (room : S.length + 8000 < sizeLine) :
    ∃ r S' c, kpN (n + 1) t b e S = some (r, S') ∧ Gd S S' c r (((rd S t).take e).drop b) ∧ c ≤ 200 * hp S t := by
  have h1 := hp_le wf ht
  obtain ⟨x, y, S1, c1, d1, gx, gy, hc1, hx, hy⟩ := s_haT (n := n) wf ht hn he (by omega)
  have l1 := gx.up.len
  obtain ⟨x2, y2, S2, c2, d2, gx2, gy2, hc2, hx2, hy2⟩ := s_haT (n := n) (at_ := b) gx.up.wf gx.r1 hn (by rw [gx.rd, List.length_take]; omega) (by omega)
  refine ⟨y2, S2, c1 + c2, ?_, ⟨gx.up.trans gx2.up, gy2.r1, by rw [gy2.rd, gx.rd]⟩, by omega⟩
  unfold kpN
  rw [bnd_of (wsN_T wf ht hb he), bnd_of d1, bnd_of d2]
  rfl
end
end SW
end

section
set_option Elab.async false
set_option linter.all false
set_option maxRecDepth 100000
set_option maxHeartbeats 4000000
/-! Built, repeated: what they do. -/
namespace SW
open PySem L2
def flT (ps : List (Nat × Str)) : List Nat := (ps.map fun p => p.2.cps.toList).flatten
/-- a row of leaves, all but the last of eight signs -/
structure RowL (S : Sh) (ps : List (Nat × Str)) : Prop where
  nd : ∀ p ∈ ps, NdL S p.1 p.2
  z8 : ∀ p ∈ ps.dropLast, sz p.2 = 8
theorem flT_app (a b : List (Nat × Str)) : flT (a ++ b) = flT a ++ flT b := by unfold flT; simp
theorem pow_lt2 {a b : Nat} (h : 2 ^ a < 2 * 2 ^ b) : a ≤ b := by
  have : (2 : Nat) ^ a < 2 ^ (b + 1) := by rw [Nat.pow_succ]; omega
  have := (Nat.pow_lt_pow_iff_right (a := 2) (by omega)).mp this
  omega
theorem pow_lt4 {a b : Nat} (h : 2 ^ a < 2 * 2 ^ b + 2) : a ≤ b + 1 := by
  have h1 : 1 ≤ 2 ^ b := Nat.one_le_two_pow
  have : (2 : Nat) ^ a < 2 ^ (b + 2) := by rw [Nat.pow_succ, Nat.pow_succ]; omega
  have := (Nat.pow_lt_pow_iff_right (a := 2) (by omega)).mp this
  omega
theorem bal {j k h1 h2 : Nat} (h0 : 1 ≤ j) (hj : k = j ∨ k = j + 1) (a1 : j ≤ 2 ^ h1) (b1 : 2 ^ h1 < 2 * j) (a2 : k ≤ 2 ^ h2) (b2 : 2 ^ h2 < 2 * k) :
    h1 ≤ h2 + 1 ∧ h2 ≤ h1 + 1 ∧ j + k ≤ 2 ^ (1 + max h1 h2) ∧ 2 ^ (1 + max h1 h2) < 2 * (j + k) := by
  have c1 : h1 ≤ h2 := pow_lt2 (by omega)
  have c2 : h2 ≤ h1 + 1 := pow_lt4 (by omega)
  refine ⟨by omega, c2, ?_, ?_⟩
  · rw [Nat.max_eq_right c1, Nat.add_comm 1, Nat.pow_succ]
    have := Nat.pow_le_pow_right (n := 2) (by omega) c1
    omega
  · rw [Nat.max_eq_right c1, Nat.add_comm 1, Nat.pow_succ]
    rcases hj with rfl | rfl
    · omega
    · cases h2 with
      | zero => simp; omega
      | succ m =>
        rw [Nat.pow_succ] at b2 ⊢
        omega
theorem RowL.up {S S' : Sh} {ps : List (Nat × Str)} {c : Nat} (u : Up S S' c) (R : RowL S ps) : RowL S' ps := ⟨fun p h => (R.nd p h).pre u.pre, R.z8⟩
theorem s_bf : ∀ {n : Nat} {S : Sh} {ps : List (Nat × Str)} (wf : WF S) (R : RowL S ps) (h0 : 1 ≤ ps.length) (hn : ps.length ≤ 2 ^ n) (hs : (flT ps).length ≤ 1000000000000000000) (room : S.length + ps.length + 2 < sizeLine),
    ∃ r S' h f l, bfN (n + 1) (ps.map (·.1)) S = some (r, S') ∧ Up S S' (ps.length - 1) ∧ Tv S' r h f l (flT ps) ∧ ps.length ≤ 2 ^ h ∧ 2 ^ h < 2 * ps.length ∧ ((∀ p ∈ ps, sz p.2 = 8) → sz l = 8) := by
  intro n
  induction n with
  | zero =>
    intro S ps wf R h0 hn hs room
    match ps, h0, hn with
    | [p], _, _ =>
      have nd := R.nd p (by simp)
      refine ⟨p.1, S, 0, p.2, p.2, ?_, (Up.refl wf).mono (by omega), ?_, by simp, by simp, fun h => h p (by simp)⟩
      · unfold bfN; rfl
      · have := nd.tv; simpa [flT] using this
  | succ n ih =>
    intro S ps wf R h0 hn hs room
    by_cases h1 : ps.length = 1
    · match ps, h1 with
      | [p], _ =>
        have nd := R.nd p (by simp)
        refine ⟨p.1, S, 0, p.2, p.2, ?_, (Up.refl wf).mono (by omega), ?_, by simp, by simp, fun h => h p (by simp)⟩
        · unfold bfN; rfl
        · have := nd.tv; simpa [flT] using this
    have hpow : (2 : Nat) ^ (n + 1) = 2 * 2 ^ n := by rw [Nat.pow_succ]; omega
    have hl1 : (ps.take (ps.length / 2)).length = ps.length / 2 := by rw [List.length_take]; omega
    have hl2 : (ps.drop (ps.length / 2)).length = ps.length - ps.length / 2 := List.length_drop
    have hcat : flT ps = flT (ps.take (ps.length / 2)) ++ flT (ps.drop (ps.length / 2)) := by rw [← flT_app, List.take_append_drop]
    have hlen : (flT (ps.take (ps.length / 2))).length + (flT (ps.drop (ps.length / 2))).length = (flT ps).length := by rw [hcat, List.length_append]
    have ht8 : ∀ p ∈ ps.take (ps.length / 2), sz p.2 = 8 := by
      intro p hp
      refine R.z8 p ?_
      rw [List.dropLast_eq_take]
      exact (List.take_sublist_take_left (by omega)).subset hp
    have R1 : RowL S (ps.take (ps.length / 2)) := ⟨fun p hp => R.nd p (List.mem_of_mem_take hp), fun p hp => ht8 p ((List.dropLast_sublist _).subset hp)⟩
    have R2 : RowL S (ps.drop (ps.length / 2)) := ⟨fun p hp => R.nd p (List.mem_of_mem_drop hp), fun p hp => R.z8 p (by
      rw [List.dropLast_eq_take] at hp ⊢
      rw [List.length_drop, List.take_drop] at hp
      have := List.mem_of_mem_drop hp
      have e : ps.length / 2 + (ps.length - ps.length / 2 - 1) = ps.length - 1 := by omega
      rw [e] at this
      exact this)⟩
    obtain ⟨a, S1, ha, fa, la, d1, u1, va, p1, p2, p3⟩ := ih wf R1 (by omega) (by omega) (by omega) (by omega)
    have := u1.len
    obtain ⟨b, S2, hb, fb, lb, d2, u2, vb, q1, q2, q3⟩ := ih u1.wf (R2.up u1) (by omega) (by omega) (by omega) (by omega)
    have := u2.len
    have hB := bal (h1 := ha) (h2 := hb) (j := ps.length / 2) (k := ps.length - ps.length / 2) (by omega) (by omega) (by omega) (by omega) (by omega) (by omega)
    obtain ⟨x1, x2, x3, x4⟩ := hB
    have cl : 8 < sz la + sz fb := by
      have := (vb.fok u2.wf).h1
      have := p3 ht8
      show 8 < sz la + fb.cps.size
      omega
    obtain ⟨r, S3, d3, u3, vr⟩ := f_fork u2.wf (va.up u2) vb cl x1 x2 (by omega) (by omega)
    have e4 : ps.length / 2 + (ps.length - ps.length / 2) = ps.length := by omega
    rw [e4] at x3 x4
    refine ⟨r, S3, _, fa, lb, ?_, ((u1.trans u2).trans u3).mono (by omega), by rw [hcat]; exact vr, x3, x4, fun h => q3 fun p hp => h p (List.mem_of_mem_drop hp)⟩
    unfold bfN
    rw [List.length_map, if_neg (by omega), if_neg h1, ← List.map_take, ← List.map_drop, bnd_of d1, bnd_of d2]
    exact d3
section
variable {S S' : Sh} {t a b r c at_ n : Nat} {w wa wb : List Nat} {x : Str}
theorem s_lv (wf : WF S) (pl : plainB x = true) : ∀ i, 8 * i < sz x + 8 → S.length + i + 2 < sizeLine → ∃ ps S', lvN x i S = some (ps.map (·.1), S') ∧ Up S S' i ∧ RowL S' ps ∧ ps.length = i ∧ flT ps = x.cps.toList.take (8 * i) ∧ (8 * i ≤ sz x → ∀ p ∈ ps, sz p.2 = 8) := by
  intro i
  induction i with
  | zero => intro _ _; exact ⟨[], S, rfl, Up.refl wf, ⟨fun p h => by simp at h, fun p h => by simp at h⟩, rfl, rfl, fun _ p h => by simp at h⟩
  | succ i ih =>
    intro hi room
    obtain ⟨ps, S1, d1, u1, R, hl, hf, h8⟩ := ih (by omega) (by omega)
    have := u1.len
    have hle : 8 * i ≤ x.cps.size := by show 8 * i ≤ sz x; omega
    have e : cutS x (some ((8 * i : Nat) : Int)) (some ((8 * i + 8 : Nat) : Int)) = ⟨((x.cps.toList.drop (8 * i)).take 8).toArray⟩ := by
      rw [cutS_ab hle]
      have : 8 * i + 8 - 8 * i = 8 := by omega
      rw [this]
    have hcl : ((x.cps.toList.drop (8 * i)).take 8).length = min 8 (sz x - 8 * i) := by simp
    have ok : LfOk ⟨((x.cps.toList.drop (8 * i)).take 8).toArray⟩ := by
      refine ⟨?_, ?_, ?_⟩
      · unfold plainB at *
        rw [List.all_eq_true] at *
        intro c hc
        exact pl c (List.mem_of_mem_drop (List.mem_of_mem_take (by simpa using hc)))
      · show 1 ≤ (((x.cps.toList.drop (8 * i)).take 8).toArray).size
        rw [List.size_toArray, hcl]; omega
      · show (((x.cps.toList.drop (8 * i)).take 8).toArray).size ≤ 8
        rw [List.size_toArray, hcl]; omega
    obtain ⟨m, S2, d2, u2, nm⟩ := s_leaf u1.wf ok (by omega)
    have hz := h8 (by omega)
    refine ⟨ps ++ [(m, ⟨((x.cps.toList.drop (8 * i)).take 8).toArray⟩)], S2, ?_, u1.trans u2, ⟨?_, ?_⟩, by simp [hl], ?_, ?_⟩
    · unfold lvN
      rw [bnd_of d1, e, bnd_of d2]
      simp [ret]
    · intro p hp
      rcases List.mem_append.mp hp with h | h
      · exact (R.nd p h).pre u2.pre
      · simp at h; subst h; exact nm
    · intro p hp
      rw [List.dropLast_concat] at hp
      exact hz p hp
    · rw [flT_app, hf]
      have e9 : 8 * (i + 1) = 8 * i + 8 := by omega
      rw [e9, List.take_add]
      simp [flT]
    · intro h p hp
      rcases List.mem_append.mp hp with h' | h'
      · exact hz p h'
      · simp at h'; subst h'
        show (((x.cps.toList.drop (8 * i)).take 8).toArray).size = 8
        rw [List.size_toArray, hcl]; omega
theorem s_bu (wf : WF S) (pl : plainB x = true) (hx : sz x ≤ 10000) (room : S.length + 3000 < sizeLine) (hn : (sz x + 7) / 8 ≤ 2 ^ n) : ∃ r S' c, buN (n + 1) x S = some (r, S') ∧ Gd S S' c r x.cps.toList ∧ c ≤ 2 * ((sz x + 7) / 8) := by
  have e0 : ¬ (plainB x = false ∨ 10000 < x.cps.size) := by
    rintro (h | h)
    · rw [pl] at h; cases h
    · exact absurd hx (Nat.not_le.mpr h)
  unfold buN
  rw [if_neg e0]
  by_cases h0 : x.cps.size = 0
  · rw [if_pos h0]
    have e : x.cps.toList = [] := List.eq_nil_of_length_eq_zero (by simpa using h0)
    exact ⟨0, S, 0, rfl, ⟨Up.refl wf, Nat.zero_le _, by rw [e]; rfl⟩, by omega⟩
  rw [if_neg h0]
  have h0' : sz x ≠ 0 := h0
  obtain ⟨ps, S1, d1, u1, R, hl, hf, h8⟩ := s_lv wf pl ((sz x + 7) / 8) (by omega) (by omega)
  have := u1.len
  have hf2 : flT ps = x.cps.toList := by rw [hf]; exact List.take_of_length_le (by simp; show sz x ≤ _; omega)
  have hl3 : (flT ps).length = sz x := by rw [hf2]; simp
  obtain ⟨r, S2, h, f, l, d2, u2, v, _⟩ := s_bf (n := n) u1.wf R (by omega) (by omega) (by omega) (by omega)
  refine ⟨r, S2, _, ?_, ⟨u1.trans u2, v.t1, by rw [v.rd, hf2]⟩, by omega⟩
  rw [bnd_of d1]
  exact d2
def rep (m : Nat) (w : List Nat) : List Nat := (List.replicate m w).flatten
theorem rep_two (m : Nat) (w : List Nat) : rep (2 * m) w = rep m (w ++ w) := by
  unfold rep
  induction m with
  | zero => rfl
  | succ m ih =>
    have : 2 * (m + 1) = 2 * m + 1 + 1 := by omega
    rw [this, List.replicate_succ, List.replicate_succ, List.replicate_succ, List.flatten_cons, List.flatten_cons, List.flatten_cons, ih, List.append_assoc]
theorem rep_succ (m : Nat) (w : List Nat) : rep (m + 1) w = w ++ rep m w := by
  unfold rep; rw [List.replicate_succ, List.flatten_cons]
theorem rep_len (m : Nat) (w : List Nat) : (rep m w).length = w.length * m := by
  unfold rep
  induction m with
  | zero => simp
  | succ m ih => rw [List.replicate_succ, List.flatten_cons, List.length_append, ih, Nat.mul_succ]; omega
theorem rep_add (a b : Nat) (w : List Nat) : rep (a + b) w = rep a w ++ rep b w := by
  induction a with
  | zero => rw [Nat.zero_add]; rfl
  | succ a ih =>
    have : a + 1 + b = (a + b) + 1 := by omega
    rw [this, rep_succ, rep_succ, ih, List.append_assoc]
theorem s_rl (hn : 85 ≤ n) : ∀ {f L : Nat} {S : Sh} {fo tw m : Nat} (wf : WF S) (h1 : fo ≤ S.length) (h2 : tw ≤ S.length) (hm : m < 2 ^ L) (hf : L < f) (hs : (rd S fo).length + (rd S tw).length * m ≤ 1000000000000000000) (room : S.length + 3000 * L + 3000 < sizeLine),
    ∃ r S' c, rlN (n + 1) f fo tw m S = some (r, S') ∧ Gd S S' c r (rd S fo ++ rep m (rd S tw)) ∧ c ≤ 3000 * L := by
  intro f
  induction f with
  | zero => intro L S fo tw m wf h1 h2 hm hf hs room; omega
  | succ f ih =>
    intro L S fo tw m wf h1 h2 hm hf hs room
    unfold rlN
    by_cases m0 : m = 0
    · rw [if_pos m0]
      subst m0
      exact ⟨fo, S, 0, rfl, ⟨Up.refl wf, h1, by unfold rep; simp⟩, by omega⟩
    rw [if_neg m0]
    cases L with
    | zero => simp at hm; omega
    | succ L =>
      have hm2 : m / 2 < 2 ^ L := by rw [Nat.pow_succ] at hm; omega
      have k1 := hp_le wf h1
      have k2 := hp_le wf h2
      have hmul : (rd S tw).length * m = (rd S tw).length * (m % 2) + (rd S tw).length * 2 * (m / 2) := by
        rw [Nat.mul_assoc, ← Nat.mul_add]; congr 1; omega
      -- the first step
      have st1 : ∃ x S1 c1, (if m % 2 = 1 then joN (n + 1) fo tw else ret fo) S = some (x, S1) ∧ Gd S S1 c1 x (rd S fo ++ rep (m % 2) (rd S tw)) ∧ c1 ≤ 1300 := by
        by_cases e : m % 2 = 1
        · rw [if_pos e]
          rw [e, Nat.mul_one] at hmul
          obtain ⟨x, S1, c1, d1, g1, hc, _⟩ := s_joT (n := n) wf h1 h2 hn (by omega) (by omega)
          refine ⟨x, S1, c1, d1, ?_, by omega⟩
          rw [e, rep_succ]
          simpa [rep] using g1
        · rw [if_neg e]
          have e2 : m % 2 = 0 := by omega
          exact ⟨fo, S, 0, rfl, ⟨Up.refl wf, h1, by rw [e2]; simp [rep]⟩, by omega⟩
      obtain ⟨x, S1, c1, d1, g1, hc1⟩ := st1
      rw [bnd_of d1]
      have l1 := g1.up.len
      have l1' := g1.up.ge
      have etw := rd_up g1.up h2
      have k3 := hp_up g1.up h2
      have st2 : ∃ y S2 c2, (if 0 < m / 2 then joN (n + 1) tw tw else ret tw) S1 = some (y, S2) ∧ Up S1 S2 c2 ∧ y ≤ S2.length ∧ rep (m / 2) (rd S2 y) = rep (2 * (m / 2)) (rd S tw) ∧ (rd S2 y).length * (m / 2) ≤ (rd S tw).length * 2 * (m / 2) ∧ c2 ≤ 1300 := by
        by_cases e : 0 < m / 2
        · rw [if_pos e]
          have : (rd S tw).length * 2 ≤ (rd S tw).length * 2 * (m / 2) := Nat.le_mul_of_pos_right _ e
          obtain ⟨y, S2, c2, d2, g2, hc, _⟩ := s_joT (n := n) g1.up.wf (show tw ≤ S1.length by omega) (show tw ≤ S1.length by omega) hn (by rw [etw]; omega) (by omega)
          refine ⟨y, S2, c2, d2, g2.up, g2.r1, by rw [g2.rd, etw, rep_two], ?_, by omega⟩
          rw [g2.rd, etw, List.length_append, ← Nat.mul_two]
          exact Nat.le_refl _
        · rw [if_neg e]
          have e2 : m / 2 = 0 := by omega
          exact ⟨tw, S1, 0, rfl, Up.refl g1.up.wf, by omega, by rw [e2]; rfl, by rw [e2]; simp, by omega⟩
      obtain ⟨y, S2, c2, d2, u2, hy, er, hl, hc2⟩ := st2
      rw [bnd_of d2]
      have l2 := u2.len
      have l2' := u2.ge
      have ex := rd_up u2 g1.r1
      have lx : (rd S2 x).length = (rd S fo).length + (rd S tw).length * (m % 2) := by rw [ex, g1.rd, List.length_append, rep_len]
      obtain ⟨r, S3, c3, d3, g3, hc3⟩ := ih (L := L) u2.wf (show x ≤ S2.length by have := g1.r1; omega) hy hm2 (by omega) (by omega) (by omega)
      refine ⟨r, S3, c1 + c2 + c3, d3, ⟨(g1.up.trans u2).trans g3.up, g3.r1, ?_⟩, by omega⟩
      rw [g3.rd, ex, g1.rd, er, List.append_assoc]
      congr 1
      have : rep m (rd S tw) = rep (m % 2 + 2 * (m / 2)) (rd S tw) := by congr 1; omega
      rw [this, rep_add]
theorem s_re {m L : Nat} (wf : WF S) (ht : t ≤ S.length) (hn : 85 ≤ n) (hm : m < 2 ^ L) (hL : L ≤ m) (hs : (rd S t).length * m ≤ 1000000000000000000) (room : S.length + 3000 * L + 3000 < sizeLine) :
    ∃ r S' c, reN (n + 1) t m S = some (r, S') ∧ Gd S S' c r (rep m (rd S t)) ∧ c ≤ 3000 * L := by
  unfold reN
  rw [bnd_of (sgN_T wf ht), if_neg (by omega)]
  by_cases t0 : t = 0
  · rw [if_pos t0]
    subst t0
    refine ⟨0, S, 0, rfl, ⟨Up.refl wf, Nat.zero_le _, ?_⟩, by omega⟩
    rw [rd_zero]
    have := rep_len m []
    simp at this
    exact this.symm
  · rw [if_neg t0]
    obtain ⟨r, S', c, d, g, hc⟩ := s_rl hn (f := m + 1) (L := L) wf (Nat.zero_le _) ht hm (by omega) (by rw [rd_zero]; simpa using hs) room
    rw [rd_zero, List.nil_append] at g
    exact ⟨r, S', c, d, g, hc⟩
end
end SW
end

section
set_option Elab.async false
set_option linter.all false
set_option maxRecDepth 100000
set_option maxHeartbeats 4000000
/-! == of flat lists and tuples. -/
namespace SW
open PySem L2
def toD : V → PyData
  | .bl b => .bool b
  | .int i => .int i
  | .str x => .str x
  | _ => .none
def okD : V → Bool
  | .non | .bl _ | .int _ => true
  | .str x => (PyData.str x).canLay0
  | _ => false
theorem dg_flat {kl : Addr → List V → Prop} {g : G} : ∀ {v : V}, okD v = true → Dg kl g v (toD v)
  | .non, _ => .non
  | .bl b, _ => .bl b
  | .int i, _ => .int i
  | .str x, _ => .str x
  | .byt _, h => by cases h
  | .flt _, h => by cases h
  | .ref _, h => by cases h
  | .ty _, h => by cases h
theorem dg_flats {kl : Addr → List V → Prop} {g : G} : ∀ {xs : List V}, xs.all okD = true → DgAll kl g xs (xs.map toD)
  | [], _ => .nil
  | x :: r, h => by
    rw [List.all_cons, Bool.and_eq_true] at h
    exact .cons (dg_flat h.1) (dg_flats h.2)
theorem lay_flat : ∀ {v : V}, okD v = true → (toD v).canLay0 = true ∧ (toD v).depth = 0
  | .non, _ => ⟨by simp [toD, PyData.canLay0], by simp [toD, PyData.depth]⟩
  | .bl b, _ => ⟨by simp [toD, PyData.canLay0], by simp [toD, PyData.depth]⟩
  | .int i, _ => ⟨by simp [toD, PyData.canLay0], by simp [toD, PyData.depth]⟩
  | .str x, h => ⟨h, by simp [toD, PyData.depth]⟩
  | .byt _, h => by cases h
  | .flt _, h => by cases h
  | .ref _, h => by cases h
  | .ty _, h => by cases h
theorem lay_flats : ∀ {xs : List V}, xs.all okD = true → PyData.canLayAll0 (xs.map toD) = true ∧ PyData.depthAll (xs.map toD) = 0
  | [], _ => ⟨by simp [PyData.canLayAll0], by simp [PyData.depthAll]⟩
  | x :: r, h => by
    rw [List.all_cons, Bool.and_eq_true] at h
    obtain ⟨h1, h2⟩ := lay_flat h.1
    obtain ⟨h3, h4⟩ := lay_flats h.2
    refine ⟨?_, ?_⟩
    · rw [List.map_cons]; unfold PyData.canLayAll0; rw [h1, h3]; rfl
    · rw [List.map_cons]; unfold PyData.depthAll; rw [h2, h4]; rfl
theorem shL {xs : List V} (h : xs.all okD = true) : SeqAt.shaped (.list (xs.map toD)) = true ∧ SeqAt.shaped (.tuple (xs.map toD)) = true := by
  obtain ⟨h1, h2⟩ := lay_flats h
  constructor <;> (unfold SeqAt.shaped PyData.canLay0 PyData.depth; rw [h1, h2]; rfl)
def eqL (xs ys : List V) : Bool := PyData.eqvAll (xs.map toD) (ys.map toD)
section
variable {kl : Addr → List V → Prop} {g : G} {QB : Bool → G → Prop} {p q : Addr} {xs ys : List V}
theorem eq_ll (h1 : g p = some (.lst xs)) (h2 : g q = some (.lst ys)) (o1 : xs.all okD = true) (o2 : ys.all okD = true) (hq : QB (eqL xs ys) g) : eqV' kl (.ref p) (.ref q) g QB :=
  ⟨_, _, .lst (.inl h1) (dg_flats o1), .lst (.inl h2) (dg_flats o2), (shL o1).1, (shL o2).1, by unfold PyData.eqv; exact hq⟩
theorem eq_tt (h1 : g p = some (.tup xs)) (h2 : g q = some (.tup ys)) (o1 : xs.all okD = true) (o2 : ys.all okD = true) (hq : QB (eqL xs ys) g) : eqV' kl (.ref p) (.ref q) g QB :=
  ⟨_, _, .tup h1 (dg_flats o1), .tup h2 (dg_flats o2), (shL o1).2, (shL o2).2, by unfold PyData.eqv; exact hq⟩
theorem ne_ll (h1 : g p = some (.lst xs)) (h2 : g q = some (.lst ys)) (o1 : xs.all okD = true) (o2 : ys.all okD = true) (hq : QB (!eqL xs ys) g) : cmpV kl .NotEq (.ref p) (.ref q) g QB := eq_ll (QB := fun b g' => QB (!b) g') h1 h2 o1 o2 hq
theorem ne_tt (h1 : g p = some (.tup xs)) (h2 : g q = some (.tup ys)) (o1 : xs.all okD = true) (o2 : ys.all okD = true) (hq : QB (!eqL xs ys) g) : cmpV kl .NotEq (.ref p) (.ref q) g QB := eq_tt (QB := fun b g' => QB (!b) g') h1 h2 o1 o2 hq
theorem eq_ll' (h1 : g p = some (.lst xs)) (h2 : g q = some (.lst ys)) (o1 : xs.all okD = true) (o2 : ys.all okD = true) (hq : QB (eqL xs ys) g) : cmpV kl .Eq (.ref p) (.ref q) g QB := .inl (eq_ll h1 h2 o1 o2 hq)
theorem eq_tt' (h1 : g p = some (.tup xs)) (h2 : g q = some (.tup ys)) (o1 : xs.all okD = true) (o2 : ys.all okD = true) (hq : QB (eqL xs ys) g) : cmpV kl .Eq (.ref p) (.ref q) g QB := .inl (eq_tt h1 h2 o1 o2 hq)
end
theorem eq_len {kl : Addr → List V → Prop} {g : G} {QB : Bool → G → Prop} {p q : Addr} {xs ys : List V} (h1 : g p = some (.lst xs)) (h2 : g q = some (.lst ys)) (h : xs.length ≠ ys.length) (hq : QB false g) : cmpV kl .Eq (.ref p) (.ref q) g QB :=
  .inr ⟨p, q, xs, ys, rfl, rfl, h1, h2, h, hq⟩
theorem eqL_nil {x : V} {xs : List V} : eqL (x :: xs) [] = false := by unfold eqL; simp [PyData.eqvAll]
theorem eqL_nn : eqL [] [] = true := by unfold eqL; simp [PyData.eqvAll]
theorem eqL_refl {xs : List V} (h : xs.all okD = true) : eqL xs xs = true := by
  have := SeqAt.eqv_refl (.list (xs.map toD)) (by unfold PyData.canLay0; exact (lay_flats h).1)
  unfold PyData.eqv at this
  exact this
theorem ints_ok (ns : List Nat) : (ns.map nV).all okD = true := by
  rw [List.all_map, List.all_eq_true]
  intro x _
  rfl
theorem str_okD {x : Str} (h : plainB x = true) : okD (.str x) = true := by
  show (PyData.str x).canLay0 = true
  unfold PyData.canLay0 PyData.strOk
  rw [← Array.all_toList, List.all_eq_true]
  unfold plainB at h
  rw [List.all_eq_true] at h
  intro c hc
  have := h c hc
  simp only [Bool.or_eq_true, Bool.and_eq_true, decide_eq_true_eq] at this
  exact decide_eq_true (by omega)
theorem eqL_ne {x y : V} {xs ys : List V} (h : PyData.eqv (toD x) (toD y) = false) : eqL (x :: xs) (y :: ys) = false := by
  unfold eqL; simp [PyData.eqvAll, h]
end SW
end

section
set_option Elab.async false
set_option linter.all false
set_option maxRecDepth 100000
set_option maxHeartbeats 4000000
/-! Small things for all laws. -/
namespace SW
open PySem L2
set_option synthInstance.maxHeartbeats 200000
set_option synthInstance.maxSize 100000
theorem log_lt {n k : Nat} (h : n < 2 ^ k) (hk : 0 < k) : n.log2 < k := by
  by_cases h0 : n = 0
  · subst h0; simpa using hk
  · exact (Nat.log2_lt h0).mpr h
theorem cmulw {i j : Int} (h : i.natAbs < 2 ^ 20000) (h' : j.natAbs < 2 ^ 20000) : CMulW i j := by
  unfold CMulW
  have h1 := log_lt h (by omega)
  have h2 := log_lt h' (by omega)
  omega
theorem nat_of {x : Int} (h : 0 ≤ x) : ∃ n : Nat, x = (n : Int) := Int.eq_ofNat_of_zero_le h
theorem atI_nat {α : Type} {xs : List α} {i : Nat} (h : i < xs.length) : atI xs (i : Int) = some xs[i] := by
  unfold atI ixN
  rw [if_pos (by omega), if_pos (by omega)]
  simp [h]
def strT (x : List Nat) : Str := ⟨x.toArray⟩
theorem strT_tl (x : Str) : strT x.cps.toList = x := by unfold strT; rfl
theorem tl_strT (x : List Nat) : (strT x).cps.toList = x := by unfold strT; simp
theorem strT_app (a b : List Nat) : strT (a ++ b) = strT a ++ strT b := by
  show (⟨(a ++ b).toArray⟩ : Str) = ⟨a.toArray ++ b.toArray⟩
  simp
theorem strT_nil : strT [] = Str.ofString "" := by kernel_rfl
theorem strT_len (x : List Nat) : (strT x).length = x.length := by show (x.toArray).size = _; simp
theorem sz_strT (x : List Nat) : sz (strT x) = x.length := strT_len x
theorem strT_inj {x y : List Nat} (h : strT x = strT y) : x = y := by
  have := congrArg (fun s : Str => s.cps.toList) h
  simpa [tl_strT] using this
theorem strT_eq {x y : List Nat} : (strT x = strT y) ↔ x = y := ⟨strT_inj, fun h => by rw [h]⟩
theorem tl_len' (x : Str) : x.cps.toList.length = sz x := by simp
/-! ### heaps -/
/-- all but c is as it was -/
def Off (c : Addr) (g g' : G) : Prop := ∀ b o, b ≠ c → g b = some o → g' b = some o
theorem off_of {D : Addr} {g g' : G} [s : SubX D g g'] : Off D g g' := s.h
theorem Off.trans {D : Addr} {g g1 g2 : G} (h : Off D g g1) (k : Off D g1 g2) : Off D g g2 := fun b o h1 h2 => k b o h1 (h b o h1 h2)
/-- all but some cells is as it was -/
def OffL (L : List Addr) (g g' : G) : Prop := ∀ b o, b ∉ L → g b = some o → g' b = some o
theorem OffL.sub {L : List Addr} {gF g g' : G} (h : OffL L g g') (s : Sub gF g) (n : ∀ b ∈ L, gF b = none) : Sub gF g' := fun b o e =>
  h b o (fun hb => by rw [n b hb] at e; cases e) (s b o e)
theorem OffL.refl {L : List Addr} {g : G} : OffL L g g := fun _ _ _ h => h
theorem OffL.trans {L : List Addr} {g g1 g2 : G} (h : OffL L g g1) (k : OffL L g1 g2) : OffL L g g2 := fun b o h1 h2 => k b o h1 (h b o h1 h2)
/-- all but some cells -/
def frg (g : G) (L : List Addr) : G := fun b => if b ∈ L then none else g b
theorem frg_sub {g : G} {L : List Addr} : Sub (frg g L) g := fun b o h => by
  unfold frg at h
  split at h
  · cases h
  · exact h
theorem frg_of {g : G} {L : List Addr} {b : Addr} {o : O} (h : g b = some o) (hb : b ∉ L) : frg g L b = some o := by
  unfold frg; rw [if_neg hb]; exact h
theorem frg_no {g : G} {L : List Addr} {b : Addr} (hb : b ∈ L) : frg g L b = none := by unfold frg; rw [if_pos hb]
theorem frg_ext {gF g : G} {L : List Addr} (s : Sub gF g) (h : ∀ b ∈ L, gF b = none) : Sub gF (frg g L) := fun b o e =>
  frg_of (s b o e) fun hb => by rw [h b hb] at e; cases e
theorem map_erase {α β : Type} (f : α → β) : ∀ (l : List α) (i : Nat), (l.map f).eraseIdx i = (l.eraseIdx i).map f
  | [], i => by simp
  | x :: r, 0 => by simp
  | x :: r, i + 1 => by simp [map_erase f r i]
theorem seq_nat {n : Nat} {i : Nat} (h : i < n) : seqIndex? (i : Int) n = some i := by
  unfold seqIndex?
  simp only
  rw [if_neg (show ¬ (i : Int) < 0 by omega), if_pos (by rw [Bool.and_eq_true, decide_eq_true_eq, decide_eq_true_eq]; omega)]
  simp
/-- ranges upward -/
theorem rgUp {i n c m : Nat} (hi : i < 1000000) (hn : n < 1000000) (hc : c = 5 ∨ c = 8 ∨ c = 12) (hm : m = (n - i + (c - 1)) / c) : RgC i n c m := by
  have e : Builtin.Range.rangeSize i n c = (m : Int) := by
    unfold Builtin.Range.rangeSize
    rcases hc with rfl | rfl | rfl <;> omega
  have hml : m < 3000000 := by
    rw [hm]
    exact Nat.lt_of_le_of_lt (Nat.div_le_self _ _) (by omega)
  refine ⟨by omega, by omega, ?_, e⟩
  unfold Builtin.Range.small
  rw [e]
  have fl : ∀ i : Int, -1 ≤ i → i < 3000000 → Builtin.Range.rangeFitsLong i = true := fun i h1 h2 => by
    unfold Builtin.Range.rangeFitsLong
    rw [Bool.and_eq_true, decide_eq_true_eq, decide_eq_true_eq]
    constructor <;> omega
  rw [fl i (by omega) (by omega), fl n (by omega) (by omega), fl c (by omega) (by omega), fl _ (by omega) (by omega), if_pos (by omega), fl _ (by omega) (by omega)]
  simp
/-- a text with its signs -/
structure Rd (S : Sh) (t : Nat) (w : List Nat) : Prop where
  le : t ≤ S.length
  rd : rd S t = w
theorem Rd.up {S S' : Sh} {t : Nat} {w : List Nat} {c : Nat} (u : Up S S' c) (h : Rd S t w) : Rd S' t w := ⟨Nat.le_trans h.le u.ge, by rw [rd_up u h.le]; exact h.rd⟩
theorem Gd.rdT {S S' : Sh} {c r : Nat} {w : List Nat} (g : Gd S S' c r w) : Rd S' r w := ⟨g.r1, g.rd⟩
theorem Rd.sg {S : Sh} {t : Nat} {w : List Nat} (wf : WF S) (h : Rd S t w) : sgT S t = w.length := by rw [← wf.len t h.le, h.rd]
theorem Rd.big {S : Sh} {t : Nat} {w : List Nat} (wf : WF S) (h : Rd S t w) : w.length ≤ 1000000000000000000 := by
  rw [← h.sg wf]
  by_cases h0 : t = 0
  · subst h0; show 0 ≤ _; omega
  · rcases wf.nd (by omega) h.le with ⟨x, n⟩ | ⟨u, v, n⟩
    · rw [n.sg]; have := n.ok.h8; omega
    · exact n.most
/-! ### parts of texts -/
def slN (w : List Nat) (b e : Int) : List Nat := (w.take e.toNat).drop b.toNat
theorem slN_app (A B : List Nat) (b e : Nat) : slN (A ++ B) b e = slN A b e ++ slN B ((b : Int) - (A.length : Int)) ((e : Int) - (A.length : Int)) := by
  unfold slN
  have e1 : ((b : Int) - (A.length : Int)).toNat = b - A.length := by omega
  have e2 : ((e : Int) - (A.length : Int)).toNat = e - A.length := by omega
  rw [e1, e2, Int.toNat_natCast, Int.toNat_natCast, List.take_append, List.drop_append, List.length_take]
  congr 1
  by_cases h : e ≤ A.length
  · have : e - A.length = 0 := by omega
    rw [this]; simp
  · rw [Nat.min_eq_right (by omega)]
section
variable {kl : Addr → List V → Prop} {defs : Nat → Option FDef} {a : Addr} {S : Sh} [d29 : DefAt defs 29 d_gathered] [d30 : DefAt defs 30 d_stretch_of]
theorem slN_norm (w : List Nat) (b e : Int) : slN w (if 0 > b then 0 else b) (if (w.length : Int) < e then (w.length : Int) else e) = slN w b e := by
  unfold slN
  have e1 : (if 0 > b then 0 else b).toNat = b.toNat := by split <;> omega
  rw [e1]
  congr 1
  split
  · rename_i h
    rw [Int.toNat_natCast, List.take_of_length_le (Nat.le_refl _), List.take_of_length_le (by omega)]
  · rfl
theorem w_gath (wf : WF S) : ∀ {n k t : Nat} {b e : Int} {g : G} {Q : VG} {E : XG} [sa : At g a (.shf S)] (ht : t ≤ S.length) (hn : SW.hp S t ≤ n) (hk : n + 1 ≤ k) (hz : (slN (rd S t) b e).length ≤ 100000)
    (q : Q (.str (strT (slN (rd S t) b e))) g), Gam kl bsP defs k 29 [.ref a, .int t, .int b, .int e] g Q E := by
  intro n
  induction n with
  | zero =>
    intro k t b e g Q E sa ht hn hk hz q
    obtain ⟨k, rfl⟩ : ∃ j, k = j + 1 := ⟨k - 1, by omega⟩
    have h0 : t = 0 := by
      by_cases h0 : t = 0
      · exact h0
      · rw [hp_pos (by omega)] at hn; omega
    subst h0
    rw [rd_zero] at q
    refine gam_of d29.h rfl ?_
    show b_gathered _ _ [some (.ref a), some (.int 0), some (.int b), some (.int e), none, none, none, none] _
    unfold b_gathered
    have e0 : strT (slN [] b e) = Str.ofString "" := by unfold slN; simp; exact strT_nil
    rw [e0] at q
    have s0 : sgT S 0 = 0 := rfl
    repeat refine go ?_
    refine gam_base (.signs sa.h (Nat.zero_le _) ?_)
    rw [s0]
    repeat refine go ?_
    refine ifD (by split <;> split <;> omega) ?_
    repeat refine go ?_
    exact fin q
  | succ n ih =>
    intro k t b e g Q E sa ht hn hk hz q
    obtain ⟨k, rfl⟩ : ∃ j, k = j + 1 := ⟨k - 1, by omega⟩
    refine gam_of d29.h rfl ?_
    show b_gathered _ _ [some (.ref a), some (.int t), some (.int b), some (.int e), none, none, none, none] _
    unfold b_gathered
    have hsg : sgT S t = (rd S t).length := by rw [← wf.len t ht]
    rw [← slN_norm] at q hz
    repeat refine go ?_
    refine ⟨by omega, ?_⟩
    rw [hsg]
    repeat refine go ?_
    obtain ⟨b2, hb2⟩ := nat_of (show 0 ≤ (if 0 > b then 0 else b) by split <;> omega)
    rw [hb2] at q hz ⊢
    generalize he2 : (if ((rd S t).length : Int) < e then ((rd S t).length : Int) else e) = e2 at *
    have he3 : e2 ≤ (rd S t).length := by rw [← he2]; split <;> omega
    by_cases hbe : e2 ≤ b2
    · refine ifD hbe ?_
      repeat refine go ?_
      have e0 : strT (slN (rd S t) b2 e2) = Str.ofString "" := by
        have : slN (rd S t) b2 e2 = [] := by
          unfold slN
          apply List.drop_eq_nil_of_le
          rw [List.length_take]; omega
        rw [this]; exact strT_nil
      rw [e0] at q
      exact fin q
    · refine ifDn hbe ?_
      repeat refine go ?_
      obtain ⟨e4, rfl⟩ := nat_of (show 0 ≤ e2 by omega)
      have t0 : 0 < t := by
        by_cases h0 : t = 0
        · subst h0; rw [rd_zero] at he3; simp at he3; omega
        · omega
      refine ⟨by omega, ?_⟩
      repeat refine go ?_
      rw [htT_pos t0]
      rcases wf.nd t0 ht with ⟨x, nd⟩ | ⟨u, v, nd⟩
      · refine ifD (by rw [nd.ht]; rfl) ?_
        haveI : PcL S t x := ⟨nd.pc⟩
        repeat refine go ?_
        intro p hp
        repeat refine go ?_
        refine ⟨_, rfl, ?_⟩
        repeat refine go ?_
        have hx8 := nd.ok.h8
        have hx : (rd S t).length = sz x := by rw [nd.rd]; simp
        refine ⟨Nat.le_trans hx8 (by simp [sizeLine]), ?_⟩
        rw [cutS_ab (by show b2 ≤ sz x; omega)]
        repeat refine go ?_
        have e0 : strT (slN (rd S t) b2 e4) = ⟨((x.cps.toList.drop b2).take (e4 - b2)).toArray⟩ := by
          unfold slN strT
          rw [Int.toNat_natCast, Int.toNat_natCast, nd.rd, List.drop_take]
        rw [e0] at q
        exact ⟨_, hp.sub, q⟩
      · refine ifDn (by rw [nd.ht]; omega) ?_
        haveI : PcF S t u v := ⟨nd.pc⟩
        repeat refine go ?_
        intro p hp
        repeat refine go ?_
        refine ⟨rfl, ?_⟩
        have hu := nd.a1
        have hv := nd.b1
        repeat refine go ?_
        refine ⟨by omega, ?_⟩
        repeat refine go ?_
        have hnt : hgT S t ≤ n := by rw [hp_pos t0] at hn; omega
        have hht := nd.ht
        have hu' : SW.hp S u ≤ n := by rw [hp_pos nd.a0]; omega
        have hv' : SW.hp S v ≤ n := by rw [hp_pos nd.b0]; omega
        have hrd : rd S t = rd S u ++ rd S v := nd.rd
        have hsu : sgT S u = (rd S u).length := by rw [← wf.len u (by omega)]
        rw [hrd, slN_app] at q hz
        rw [List.length_append] at hz
        refine ih (by omega) hu' (by omega) (by omega) ?_
        repeat refine go ?_
        rw [hsu]
        refine ih (by omega) hv' (by omega) (by omega) ?_
        repeat refine go ?_
        refine ⟨by rw [strT_len, strT_len]; simp [sizeLine]; omega, ?_⟩
        rw [← strT_app]
        exact ⟨_, hp.sub, q⟩
theorem w_str (wf : WF S) {k t : Nat} {b e : Nat} {g : G} {Q : VG} {E : XG} [sa : At g a (.shf S)] {w : List Nat} (h : Rd S t w) (h1 : b ≤ e) (h2 : e ≤ w.length) (h3 : e - b ≤ 10000) (hk : 100 ≤ k)
    (q : Q (.str (strT ((w.take e).drop b))) g) : Gam kl bsP defs k 30 [.ref a, .int t, .int b, .int e] g Q E := by
  obtain ⟨k, rfl⟩ : ∃ j, k = j + 1 := ⟨k - 1, by omega⟩
  refine gam_of d30.h rfl ?_
  show b_stretch_of _ _ [some (.ref a), some (.int t), some (.int b), some (.int e), none] _
  unfold b_stretch_of
  have hl := h.le
  have hsg := h.sg wf
  repeat refine go ?_
  refine ⟨hl, ?_⟩
  rw [hsg]
  repeat first | refine go ?_ | refine ifD (by omega) ?_ | refine ifDn (by omega) ?_ | refine ifN (by omega) ?_ | refine ifNn (by omega) ?_ | rw [decide_eq_true (show (e : Int) ≤ (w.length : Int) by omega)] | fail
  have e0 : slN (rd S t) (b : Int) (e : Int) = (w.take e).drop b := by unfold slN; rw [h.rd, Int.toNat_natCast, Int.toNat_natCast]
  refine w_gath wf hl (hp_le wf hl) (by omega) (by rw [e0, List.length_drop, List.length_take]; omega) ?_
  rw [e0]
  repeat refine go ?_
  exact fin q
end
end SW
end

section
set_option Elab.async false
set_option linter.all false
set_option maxRecDepth 100000
set_option maxHeartbeats 4000000
/-! A house. -/
namespace SW
open PySem L2
set_option synthInstance.maxHeartbeats 200000
set_option synthInstance.maxSize 100000
theorem kv_str {x : Str} : V.str x = kV (.inr x) := rfl
theorem in_dS {kl : Addr → List V → Prop} {g : G} {D : Addr} {kvs : List (Key × V)} {n : Str} {QB : Bool → G → Prop} [h : At g D (.dK kvs)] (q : QB (valV kvs (.inr n)).isSome g) : cmpV kl .In (.str n) (.ref D) g QB :=
  Or.inl ⟨_, .inl ⟨kvs, .inr n, h.h, rfl, rfl⟩, q⟩
theorem nin_dS {kl : Addr → List V → Prop} {g : G} {D : Addr} {kvs : List (Key × V)} {n : Str} {QB : Bool → G → Prop} [h : At g D (.dK kvs)] (q : QB (!(valV kvs (.inr n)).isSome) g) : cmpV kl .NotIn (.str n) (.ref D) g QB :=
  in_dS (QB := fun b g' => QB (!b) g') q
theorem ix_dS {kl : Addr → List V → Prop} {g : G} {D : Addr} {kvs : List (Key × V)} {n : Str} {v : V} {Q : VG} [h : At g D (.dK kvs)] (e : valV kvs (.inr n) = some v) (q : Q v g) : ixV kl (.ref D) (.str n) g Q :=
  Or.inr ⟨v, .inl ⟨kvs, .inr n, h.h, rfl, e.symm⟩, q⟩
theorem put_dS {g : G} {D : Addr} {kvs : List (Key × V)} {n : Str} {v : V} {K : G → Prop} [h : At g D (.dK kvs)] (hl : kvs.length < sizeLine) (q : K (gu g D (.dK (putK kvs (.inr n) v)))) : sixR (.ref D) (.str n) v g K :=
  ⟨D, rfl, .inr ⟨_, .inl ⟨kvs, .inr n, h.h, rfl, hl, rfl⟩, q⟩⟩
theorem valV_put {kvs : List (Key × V)} {k j : Key} {v : V} : valV (putK kvs k v) j = if j = k then some v else valV kvs j := by
  unfold putK
  rw [valV_any]
  split
  · rename_i h
    rw [valV_map]
    cases e : valV kvs j with
    | none =>
      rw [Option.map_none]
      split
      · rename_i h2; subst h2; rw [e] at h; cases h
      · rfl
    | some u => rw [Option.map_some]; split <;> rfl
  · rename_i h
    rw [valV_snoc]
    cases e : valV kvs k with
    | none => rfl
    | some x => rw [e] at h; exact absurd rfl h
def nameB (x : Str) : Bool := decide (1 ≤ sz x ∧ sz x ≤ 8) && x.cps.toList.all fun c => decide (c ∈ ("abcdefghijklmnopqrstuvwxyz" : Str).cps.toList)
/-- a house -/
structure HouseAt (g : G) (h sh kn pa un : Addr) (S : Sh) (kvs : List (Key × V)) (ps us : List V) : Prop where
  h : g h = some (.ins 4 [(17, .ref sh), (15, .ref kn), (18, .ref pa), (19, .ref un)])
  s : g sh = some (.shf S)
  k : g kn = some (.dK kvs)
  p : g pa = some (.lst ps)
  u : g un = some (.lst us)
  ne : pa ≠ un
theorem HouseAt.off {g g' : G} {h sh kn pa un : Addr} {S : Sh} {kvs : List (Key × V)} {ps us : List V} (H : HouseAt g h sh kn pa un S kvs ps us) (o : Sub g g') : HouseAt g' h sh kn pa un S kvs ps us :=
  ⟨o _ _ H.h, o _ _ H.s, o _ _ H.k, o _ _ H.p, o _ _ H.u, H.ne⟩
section
variable {kl : Addr → List V → Prop} {bs : Nat → SpG} {defs : Nat → Option FDef} {k : Nat} {g : G} {Q : VG} {E : XG} {h sh kn pa un : Addr} {S S' : Sh} {kvs : List (Key × V)} {ps us : List V}
theorem w_name [d3 : DefAt defs 3 d_is_name] {x : Str} (hx : sz x ≤ 1000) (hk : 1 ≤ k) (q : Q (.bl (nameB x)) g) : Gam kl bs defs k 3 [.str x] g Q E := by
  obtain ⟨k, rfl⟩ : ∃ j, k = j + 1 := ⟨k - 1, by omega⟩
  refine gam_of d3.h rfl ?_
  show b_is_name _ _ [some (.str x), none] _
  unfold b_is_name
  have hs : sizeLine = 16777216 := rfl
  have ex : x.length = sz x := rfl
  repeat refine go ?_
  refine ⟨by omega, ?_⟩
  repeat refine go ?_
  by_cases h1 : 1 ≤ sz x
  · refine ifD (by omega) ?_
    repeat refine go ?_
    by_cases h8 : sz x ≤ 8
    · rw [decide_eq_true (show (x.length : Int) ≤ 8 by omega)]
      repeat refine go ?_
      refine lc_of (fun i => (x.cps.toList[i]?).map fun c => V.bl (decide (c ∈ ("abcdefghijklmnopqrstuvwxyz" : Str).cps.toList))) (by show sz x ≤ _; omega) (fun _ _ _ => trivial) (fun D i hD hi KY KN hy hn => ?_) (fun D hD => ?_)
      · refine go ?_
        intro c hc
        have hc' : x.cps.toList[i]? = some c := by rw [Array.getElem?_toList]; exact hc
        show (gN 1) _ _ [some (.str x), none] _ _
        repeat refine go ?_
        refine ⟨rfl, ?_⟩
        repeat refine go ?_
        refine ⟨c, rfl, ?_⟩
        exact hy _ _ (by rw [hc']; rfl) (Sub.refl _)
      · rw [fm_all x.cps.toList _ (by simp [Sq.len])]
        repeat refine go ?_
        refine ⟨D, x.cps.toList.map fun c => decide (c ∈ ("abcdefghijklmnopqrstuvwxyz" : Str).cps.toList), rfl, .inl (by rw [gus, List.map_map]; rfl), ?_⟩
        have e0 : nameB x = ((x.cps.toList.map fun c => decide (c ∈ ("abcdefghijklmnopqrstuvwxyz" : Str).cps.toList)).all id) := by
          unfold nameB
          rw [decide_eq_true (show 1 ≤ sz x ∧ sz x ≤ 8 from ⟨h1, h8⟩), Bool.true_and, List.all_map]
          rfl
        rw [← e0]
        exact ⟨g, Sub.new hD, q⟩
    · rw [decide_eq_false (show ¬ (x.length : Int) ≤ 8 by omega)]
      repeat refine go ?_
      have e0 : nameB x = false := by unfold nameB; rw [decide_eq_false (by omega)]; rfl
      rw [e0] at q
      exact fin q
  · refine ifDn (by omega) ?_
    repeat refine go ?_
    have e0 : nameB x = false := by unfold nameB; rw [decide_eq_false (by omega)]; rfl
    rw [e0] at q
    exact fin q
theorem h_init [d103 : DefAt defs 103 d_House___init__] (hg : g h = some (.ins 4 [])) (hk : 1 ≤ k) (q : ∀ g' sh kn pa un, HouseAt g' h sh kn pa un [] [] [] [] → OffL [h] g g' → g sh = none → g kn = none → g pa = none → g un = none → Q .non g') : Gam kl bsP defs k 103 [.ref h] g Q E := by
  obtain ⟨k, rfl⟩ : ∃ j, k = j + 1 := ⟨k - 1, by omega⟩
  haveI i1 : At g h _ := ⟨hg⟩
  refine gam_of d103.h rfl ?_
  show b_House___init__ _ _ [some (.ref h)] _
  unfold b_House___init__
  repeat refine go ?_
  intro sh hsh
  haveI f1 : Fr g sh := ⟨hsh⟩
  refine gam_base (.init gus ⟨rfl, ?_⟩)
  rw [gu_gu]
  haveI n1 : NeA h sh := NeA.of_fr i1 f1
  haveI n1' := n1.symm
  repeat refine go ?_
  refine ⟨⟨by decide, by simp⟩, ?_⟩
  repeat refine go ?_
  refine .inl fun kn hkn => ?_
  haveI f2 : Fr _ kn := ⟨hkn⟩
  haveI n2 : NeA h kn := NeA.of_fr (o := .ins 4 [(17, .ref sh)]) inferInstance f2
  haveI n2' := n2.symm
  repeat refine go ?_
  refine ⟨⟨by decide, by simp⟩, ?_⟩
  repeat refine go ?_
  refine ⟨by simp, fun pa hpa => ?_⟩
  haveI n3 : NeA h pa := NeA.of_fr (o := .ins 4 [(17, .ref sh), (15, .ref kn)]) inferInstance hpa
  haveI n3' := n3.symm
  repeat refine go ?_
  refine ⟨⟨by decide, by simp⟩, ?_⟩
  repeat refine go ?_
  refine ⟨by simp, fun un hun => ?_⟩
  haveI n4 : NeA h un := NeA.of_fr (o := .ins 4 [(17, .ref sh), (15, .ref kn), (18, .ref pa)]) inferInstance hun
  haveI n4' := n4.symm
  haveI n5 : NeA pa un := NeA.of_fr (o := .lst []) inferInstance hun
  repeat refine go ?_
  refine ⟨⟨by decide, by simp⟩, ?_⟩
  repeat refine go ?_
  refine ⟨_, Sub.refl _, q _ sh kn pa un ⟨At.h, At.h, At.h, At.h, At.h, n5.h⟩ (fun b o hb e => ?_) hsh ?_ ?_ ?_⟩
  · have hb1 : b ≠ h := by simpa using hb
    rw [gun hb1]
    have e1 := Sub.new (o := .shf []) hsh _ _ e
    have e2 : (gu (gu g sh (.shf [])) h (.ins 4 [(17, .ref sh)])) b = some o := by rw [gun hb1]; exact e1
    have e3 : (gu (gu (gu g sh (.shf [])) h (.ins 4 [(17, .ref sh)])) kn (.dK [])) b = some o := Sub.new hkn _ _ e2
    have e4 : (gu (gu (gu (gu g sh (.shf [])) h (.ins 4 [(17, .ref sh)])) kn (.dK [])) h (.ins 4 [(17, .ref sh), (15, .ref kn)])) b = some o := by rw [gun hb1]; exact e3
    have e5 := Sub.new (o := .lst []) hpa.h _ _ e4
    have e6 : (gu (gu (gu (gu (gu (gu g sh (.shf [])) h (.ins 4 [(17, .ref sh)])) kn (.dK [])) h (.ins 4 [(17, .ref sh), (15, .ref kn)])) pa (.lst [])) h (.ins 4 [(17, .ref sh), (15, .ref kn), (18, .ref pa)])) b = some o := by rw [gun hb1]; exact e5
    exact Sub.new (o := .lst []) hun.h _ _ e6
  · exact f2.of_gu.of_gu.h
  · exact hpa.of_gu.of_gu.of_gu.of_gu.h
  · exact hun.of_gu.of_gu.of_gu.of_gu.of_gu.of_gu.h
theorem h_shelf [d104 : DefAt defs 104 d_House_shelf] (H : HouseAt g h sh kn pa un S kvs ps us) (hk : 1 ≤ k) (q : Q (.ref sh) g) : Gam kl bs defs k 104 [.ref h] g Q E := by
  obtain ⟨k, rfl⟩ : ∃ j, k = j + 1 := ⟨k - 1, by omega⟩
  haveI i1 : At g h _ := ⟨H.h⟩
  refine gam_of d104.h rfl ?_
  show b_House_shelf _ _ [some (.ref h)] _
  unfold b_House_shelf
  repeat refine go ?_
  exact fin q
theorem h_text [d106 : DefAt defs 106 d_House_text] {name : Str} {v : V} (H : HouseAt g h sh kn pa un S kvs ps us) (e : valV kvs (.inr name) = some v) (hk : 1 ≤ k) (q : Q v g) : Gam kl bs defs k 106 [.ref h, .str name] g Q E := by
  obtain ⟨k, rfl⟩ : ∃ j, k = j + 1 := ⟨k - 1, by omega⟩
  haveI i1 : At g h _ := ⟨H.h⟩
  haveI i2 : At g kn _ := ⟨H.k⟩
  refine gam_of d106.h rfl ?_
  show b_House_text _ _ [some (.ref h), some (.str name)] _
  unfold b_House_text
  repeat refine go ?_
  refine nin_dS ?_
  rw [e]
  repeat refine go ?_
  refine ifF ?_
  repeat refine go ?_
  refine ix_dS e ?_
  exact fin q
/-- a deed is kept -/
theorem h_given [d107 : DefAt defs 107 d_House_step] [d108 : DefAt defs 108 d_House_given] {name : Str} {v : V} (H : HouseAt g h sh kn pa un S kvs ps us) (hkv : kvs.length < 1000) (hps : ps.length < 1000) (hk : 2 ≤ k)
    (q : ∀ g' kn' un', HouseAt g' h sh kn' pa un' S (putK kvs (.inr name) v) (ps ++ [.ref kn]) [] → OffL [h, pa] g g' → g kn' = none → g un' = none → Q .non g') : Gam kl bs defs k 108 [.ref h, .str name, v] g Q E := by
  obtain ⟨k, rfl⟩ : ∃ j, k = j + 1 := ⟨k - 1, by omega⟩
  obtain ⟨k, rfl⟩ : ∃ j, k = j + 1 := ⟨k - 1, by omega⟩
  have hs : sizeLine = 16777216 := rfl
  haveI i1 : At g h _ := ⟨H.h⟩
  haveI i2 : At g kn _ := ⟨H.k⟩
  haveI i3 : At g pa _ := ⟨H.p⟩
  haveI i4 : At g sh _ := ⟨H.s⟩
  haveI n1 : NeA h pa := NeA.of_at i1 i3 (fun z => nomatch z)
  haveI n2 : NeA h kn := NeA.of_at i1 i2 (fun z => nomatch z)
  haveI n3 : NeA pa kn := NeA.of_at i3 i2 (fun z => nomatch z)
  haveI n4 : NeA h sh := NeA.of_at i1 i4 (fun z => nomatch z)
  haveI n5 : NeA pa sh := NeA.of_at i3 i4 (fun z => nomatch z)
  haveI := n1.symm
  haveI := n2.symm
  haveI := n3.symm
  haveI := n4.symm
  haveI := n5.symm
  refine gam_of d108.h rfl ?_
  show b_House_given _ _ [some (.ref h), some (.str name), some v, none] _
  unfold b_House_given
  repeat refine go ?_
  refine ⟨kn, kvs, rfl, H.k, fun D hD => ?_⟩
  haveI f1 : Fr g D := ⟨hD⟩
  haveI n6 : NeA h D := NeA.of_fr i1 f1
  haveI n7 : NeA pa D := NeA.of_fr i3 f1
  haveI n8 : NeA kn D := NeA.of_fr i2 f1
  haveI n9 : NeA sh D := NeA.of_fr i4 f1
  haveI := n6.symm
  haveI := n7.symm
  haveI := n8.symm
  haveI := n9.symm
  repeat refine go ?_
  refine put_dS (by omega) ?_
  rw [gu_gu]
  repeat refine go ?_
  refine gam_of d107.h rfl ?_
  show b_House_step _ _ [some (.ref h), some (.ref D)] _
  unfold b_House_step
  repeat refine go ?_
  refine ⟨by omega, ?_⟩
  repeat refine go ?_
  refine ⟨⟨by decide, by simp⟩, ?_⟩
  repeat refine go ?_
  refine ⟨by simp, fun un' hun => ?_⟩
  haveI n10 : NeA h un' := NeA.of_fr (o := .ins 4 [(17, .ref sh), (15, .ref D), (18, .ref pa), (19, .ref un)]) inferInstance hun
  haveI n11 : NeA pa un' := NeA.of_fr (o := .lst (ps ++ [.ref kn])) inferInstance hun
  haveI := n10.symm
  repeat refine go ?_
  refine ⟨⟨by decide, by simp⟩, ?_⟩
  repeat refine go ?_
  refine ⟨_, Sub.refl _, _, Sub.refl _, q _ D un' ⟨At.h, At.h, At.h, At.h, At.h, n11.h⟩ (fun b o hb e => ?_) hD hun.of_gu.of_gu.of_gu.h⟩
  simp only [List.mem_cons, List.not_mem_nil, or_false, not_or] at hb
  rw [gun hb.1]
  refine Sub.new hun.h _ _ ?_
  rw [gun hb.1, gun hb.2]
  exact Sub.new hD _ _ e
end
end SW
end

section
set_option Elab.async false
set_option linter.all false
set_option maxRecDepth 100000
set_option maxHeartbeats 4000000
/-! Where a word stands, in plain Lean. -/
namespace SW
open PySem L2
def ocP (w p : List Nat) (i : Nat) : Bool := decide ((w.drop i).take p.length = p)
/-- the places of a word -/
def occL (w p : List Nat) : List Nat := (List.range w.length).filter (ocP w p)
def hdW (p w : List Nat) : List Nat := w.take (p.length - 1)
def tlW (p w : List Nat) : List Nat := w.drop (w.length - (p.length - 1))
theorem range_add' (a b : Nat) : List.range (a + b) = List.range a ++ (List.range b).map (· + a) := by
  rw [List.range_add]
  congr 1
  exact List.map_congr_left fun i _ => Nat.add_comm a i
theorem filter_none {α : Type} {l : List α} {f : α → Bool} (h : ∀ x ∈ l, f x = false) : l.filter f = [] := by
  rw [List.filter_eq_nil_iff]
  intro x hx
  rw [h x hx]; exact Bool.false_ne_true
theorem oc_short {w p : List Nat} {i : Nat} (h : w.length - i < p.length) : ocP w p i = false := by
  unfold ocP
  rw [decide_eq_false]
  intro z
  have := congrArg List.length z
  rw [List.length_take, List.length_drop] at this
  omega
theorem oc_eq {w v p : List Nat} {i j : Nat} (h : (w.drop i).take p.length = (v.drop j).take p.length) : ocP w p i = ocP v p j := by unfold ocP; rw [h]
theorem occ_app {A B p : List Nat} (hp : 1 ≤ p.length) :
    occL (A ++ B) p = occL A p ++ (occL (tlW p A ++ hdW p B) p).map (· + (A.length - (tlW p A).length)) ++ (occL B p).map (· + A.length) := by
  have l1 : (tlW p A).length = min A.length (p.length - 1) := by unfold tlW; rw [List.length_drop]; omega
  have lh : (hdW p B).length ≤ p.length - 1 := by unfold hdW; rw [List.length_take]; omega
  generalize hb : A.length - (tlW p A).length = b
  have eA : A.length = b + (tlW p A).length := by omega
  have etl : tlW p A = A.drop b := by unfold tlW; congr 1; omega
  -- A's own
  have o1 : occL A p = (List.range b).filter (ocP A p) := by
    unfold occL
    rw [eA, range_add', List.filter_append, filter_none (l := (List.range (tlW p A).length).map (· + b)), List.append_nil]
    intro x hx
    obtain ⟨j, hj, rfl⟩ := List.mem_map.mp hx
    rw [List.mem_range] at hj
    exact oc_short (by omega)
  -- the seam's own
  have o2 : occL (tlW p A ++ hdW p B) p = (List.range (tlW p A).length).filter (ocP (tlW p A ++ hdW p B) p) := by
    unfold occL
    rw [List.length_append, range_add', List.filter_append, filter_none (l := (List.range (hdW p B).length).map (· + (tlW p A).length)), List.append_nil]
    intro x hx
    obtain ⟨j, hj, rfl⟩ := List.mem_map.mp hx
    rw [List.mem_range] at hj
    exact oc_short (by rw [List.length_append]; omega)
  rw [o1, o2]
  unfold occL
  rw [List.length_append, eA, Nat.add_assoc, range_add' b, range_add' (tlW p A).length, List.map_append, List.filter_append, List.filter_append, List.append_assoc]
  congr 1
  · apply List.filter_congr
    intro i hi
    rw [List.mem_range] at hi
    apply oc_eq
    rw [List.drop_append_of_le_length (by omega), List.take_append_of_le_length (by rw [List.length_drop]; omega)]
  congr 1
  · rw [List.filter_map]
    congr 1
    apply List.filter_congr
    intro i hi
    rw [List.mem_range] at hi
    apply oc_eq
    show ((A ++ B).drop (i + b)).take p.length = _
    rw [Nat.add_comm i b, ← List.drop_drop, List.drop_append_of_le_length (by omega), ← etl]
    rw [List.drop_append_of_le_length (by omega), List.drop_append_of_le_length (by omega), List.take_append, List.take_append]
    congr 1
    unfold hdW
    rw [List.take_take]
    congr 1
    rw [List.length_drop]; omega
  · rw [List.filter_map, List.filter_map, List.map_map]
    have e1 : ((fun x => x + b) ∘ fun x => x + (tlW p A).length) = fun x => x + (b + (tlW p A).length) := by funext x; show x + _ + b = _; omega
    rw [e1]
    congr 1
    apply List.filter_congr
    intro i hi
    apply oc_eq
    show ((A ++ B).drop (i + (tlW p A).length + b)).take p.length = _
    have : i + (tlW p A).length + b = A.length + i := by omega
    rw [this, List.drop_length_add_append]
theorem hd_app (p A B : List Nat) : hdW p (hdW p A ++ hdW p B) = hdW p (A ++ B) := by
  unfold hdW
  rw [List.take_append, List.take_append, List.take_take, List.take_take, List.length_take]
  congr 1
  · congr 1; omega
  · congr 1; omega
theorem drop_min {l : List Nat} {m n : Nat} (h : min m l.length = min n l.length) : l.drop m = l.drop n := by
  by_cases h1 : m < l.length
  · have : m = n := by omega
    rw [this]
  · rw [List.drop_eq_nil_of_le (by omega), List.drop_eq_nil_of_le (by omega)]
theorem tl_app (p A B : List Nat) : tlW p (tlW p A ++ tlW p B) = tlW p (A ++ B) := by
  unfold tlW
  generalize p.length - 1 = r
  rw [List.length_append, List.length_append, List.length_drop, List.length_drop, List.drop_append, List.drop_append, List.drop_drop, List.drop_drop, List.length_drop]
  congr 1
  · exact drop_min (by omega)
  · exact drop_min (by omega)
theorem occ_lt {w p : List Nat} {i : Nat} (h : i ∈ occL w p) : i < w.length := by
  unfold occL at h
  exact List.mem_range.mp (List.mem_filter.mp h).1
theorem occ_le (w p : List Nat) : (occL w p).length ≤ w.length := by
  unfold occL
  exact Nat.le_trans (List.length_filter_le _ _) (by simp)
/-- how many numbers below n are no keys -/
def miss (kvs : List (Key × V)) : Nat → Nat
  | 0 => 0
  | n + 1 => miss kvs n + if (valV kvs (.inl (n : Int))).isNone then 1 else 0
theorem miss_le (kvs : List (Key × V)) : ∀ n, miss kvs n ≤ n
  | 0 => Nat.le_refl _
  | n + 1 => by have := miss_le kvs n; unfold miss; split <;> omega
theorem miss_mono (kvs : List (Key × V)) (m : Nat) (v : V) : ∀ n, miss (putK kvs (.inl (m : Int)) v) n ≤ miss kvs n
  | 0 => Nat.le_refl _
  | n + 1 => by
    have ih := miss_mono kvs m v n
    unfold miss
    rw [valV_put]
    by_cases e : (Sum.inl (n : Int) : Key) = .inl (m : Int)
    · rw [if_pos e]
      show _ + 0 ≤ _
      omega
    · rw [if_neg e]; omega
theorem miss_put (kvs : List (Key × V)) (m : Nat) (v : V) (h : valV kvs (.inl (m : Int)) = none) : ∀ n, m < n → miss (putK kvs (.inl (m : Int)) v) n + 1 ≤ miss kvs n
  | 0, z => by omega
  | n + 1, z => by
    unfold miss
    rw [valV_put]
    by_cases e : n = m
    · subst e
      rw [if_pos rfl, h]
      have := miss_mono kvs n v n
      show _ + 0 + 1 ≤ _ + 1
      omega
    · have ek : (Sum.inl (n : Int) : Key) ≠ .inl (m : Int) := fun z => e (by injection z with z; omega)
      rw [if_neg ek]
      have := miss_put kvs m v h n (by omega)
      omega
theorem putK_new {kvs : List (Key × V)} {k : Key} {v : V} (h : valV kvs k = none) : (putK kvs k v).length = kvs.length + 1 := by
  unfold putK
  rw [valV_any, h]
  simp
end SW
end

section
set_option Elab.async false
set_option linter.all false
set_option maxRecDepth 100000
set_option maxHeartbeats 4000000
/-! A word's places. -/
namespace SW
open PySem L2
set_option synthInstance.maxHeartbeats 200000
set_option synthInstance.maxSize 100000
theorem in_dI {kl : Addr → List V → Prop} {g : G} {D : Addr} {kvs : List (Key × V)} {n : Int} {QB : Bool → G → Prop} [h : At g D (.dK kvs)] (q : QB (valV kvs (.inl n)).isSome g) : cmpV kl .In (.int n) (.ref D) g QB :=
  Or.inl ⟨_, .inl ⟨kvs, .inl n, h.h, rfl, rfl⟩, q⟩
theorem nin_dI {kl : Addr → List V → Prop} {g : G} {D : Addr} {kvs : List (Key × V)} {n : Int} {QB : Bool → G → Prop} [h : At g D (.dK kvs)] (q : QB (!(valV kvs (.inl n)).isSome) g) : cmpV kl .NotIn (.int n) (.ref D) g QB :=
  in_dI (QB := fun b g' => QB (!b) g') q
theorem ix_dI {kl : Addr → List V → Prop} {g : G} {D : Addr} {kvs : List (Key × V)} {n : Int} {v : V} {Q : VG} [h : At g D (.dK kvs)] (e : valV kvs (.inl n) = some v) (q : Q v g) : ixV kl (.ref D) (.int n) g Q :=
  Or.inr ⟨v, .inl ⟨kvs, .inl n, h.h, rfl, e.symm⟩, q⟩
theorem put_dI {g : G} {D : Addr} {kvs : List (Key × V)} {n : Int} {v : V} {K : G → Prop} [h : At g D (.dK kvs)] (hl : kvs.length < sizeLine) (q : K (gu g D (.dK (putK kvs (.inl n) v)))) : sixR (.ref D) (.int n) v g K :=
  ⟨D, rfl, .inr ⟨_, .inl ⟨kvs, .inl n, h.h, rfl, hl, rfl⟩, q⟩⟩
/-- a finder -/
structure FdAt (g : G) (F a kn en : Addr) (S : Sh) (x : Str) : Prop where
  f : g F = some (.ins 3 [(11, .ref a), (14, .str x), (15, .ref kn), (16, .ref en)])
  s : g a = some (.shf S)
  k : ∃ kvs, g kn = some (.dK kvs) ∧ kvs.length + miss kvs (S.length + 1) ≤ S.length + 2 ∧ valV kvs (.inl 0) = some (.int 0) ∧ ∀ key v, valV kvs key = some v → ∃ n : Nat, n ≤ S.length ∧ key = .inl (n : Int) ∧ v = nV (occL (rd S n) x.cps.toList).length
  e : ∃ kvs, g en = some (.dK kvs) ∧ kvs.length + miss kvs (S.length + 1) ≤ S.length + 2 ∧ ∀ key v, valV kvs key = some v → ∃ (n : Nat) (p : Addr), n ≤ S.length ∧ key = .inl (n : Int) ∧ v = .ref p ∧ g p = some (.tup [.str (strT (hdW x.cps.toList (rd S n))), .str (strT (tlW x.cps.toList (rd S n)))])
  ne : kn ≠ en
theorem FdAt.sub {g g' : G} {F a kn en : Addr} {S : Sh} {x : Str} (s : Sub g g') (h : FdAt g F a kn en S x) : FdAt g' F a kn en S x := by
  obtain ⟨k1, a1, a2, a3⟩ := h.k
  obtain ⟨k2, b1, b2, b3⟩ := h.e
  exact ⟨s _ _ h.f, s _ _ h.s, ⟨k1, s _ _ a1, a2, a3⟩, ⟨k2, s _ _ b1, b2, fun key v hv => let ⟨n, p, c1, c2, c3, c4⟩ := b3 key v hv; ⟨n, p, c1, c2, c3, s _ _ c4⟩⟩, h.ne⟩
section
variable {kl : Addr → List V → Prop} {defs : Nat → Option FDef} {g : G} {F a kn en : Addr} {S : Sh} {x : Str} [d92 : DefAt defs 92 d_places_in] [d94 : DefAt defs 94 d_Finder_ends_of] [d95 : DefAt defs 95 d_Finder_seam] [d96 : DefAt defs 96 d_Finder_often] [d97 : DefAt defs 97 d_Finder_place]
theorem w_places {k : Nat} {Q : VG} {E : XG} {bs : Nat → SpG} {y : List Nat} (hy : y.length ≤ 100000) (hx : sz x ≤ 8) (hk : 1 ≤ k) (q : ∀ r, Fr g r → Q (.ref r) (gu g r (.lst ((occL y x.cps.toList).map nV)))) : Gam kl bs defs k 92 [.str (strT y), .str x] g Q E := by
  obtain ⟨k, rfl⟩ : ∃ j, k = j + 1 := ⟨k - 1, by omega⟩
  refine gam_of d92.h rfl ?_
  show b_places_in _ _ [some (.str (strT y)), some (.str x), none] _
  unfold b_places_in
  have hs : sizeLine = 16777216 := rfl
  have ly : (strT y).length = y.length := strT_len y
  have lx : x.length = sz x := rfl
  repeat refine go ?_
  refine ⟨by omega, ?_⟩
  repeat refine go ?_
  refine ⟨by omega, by omega, ?_⟩
  rw [Int.toNat_natCast, ly]
  refine lc_of (fun i => if ocP y x.cps.toList i = true then some (nV i) else none) (by show y.length ≤ _; omega) (fun _ _ _ => trivial) (fun D i hD hi KY KN hyy hn => ?_) (fun D hD => ?_)
  · have hi2 : i < y.length := hi
    refine go ?_
    have ei : (0 : Int) + (i : Nat) * 1 = (i : Int) := by omega
    rw [ei]
    show (gN 2) _ _ [some (.str (strT y)), some (.str x), none] _ _
    repeat refine go ?_
    refine ⟨rfl, ?_⟩
    repeat refine go ?_
    refine ⟨by omega, ?_⟩
    repeat refine go ?_
    have ee : (i : Int) + (x.length : Int) = ((i + x.length : Nat) : Int) := by omega
    rw [ee]
    refine ⟨by omega, ?_⟩
    rw [cutS_ab (by show i ≤ sz (strT y); rw [sz_strT]; omega)]
    repeat refine go ?_
    have e1 : (⟨(((strT y).cps.toList.drop i).take (i + x.length - i)).toArray⟩ : Str) = strT ((y.drop i).take x.cps.toList.length) := by
      rw [tl_strT, Nat.add_sub_cancel_left, tl_len']; rfl
    rw [e1]
    by_cases ho : ocP y x.cps.toList i = true
    · have ho2 := of_decide_eq_true (show decide _ = true from ho)
      refine ifD (by rw [ho2, strT_tl]) ?_
      repeat refine go ?_
      exact hyy _ _ (by rw [if_pos ho]) (Sub.refl _)
    · have ho2 : ¬ (y.drop i).take x.cps.toList.length = x.cps.toList := fun z => ho (decide_eq_true z)
      refine ifDn (fun z => ho2 (by
        have := congrArg (fun s : Str => s.cps.toList) z
        simpa only [tl_strT] using this)) ?_
      exact hn _ (by rw [if_neg ho]) (Sub.refl _)
  · have en : (List.range (Sq.rng 0 1 y.length).len).filterMap (fun i => if ocP y x.cps.toList i = true then some (nV i) else none) = (occL y x.cps.toList).map nV := by
      show (List.range y.length).filterMap _ = _
      unfold occL
      generalize List.range y.length = l
      induction l with
      | nil => rfl
      | cons z l ih =>
        rw [List.filterMap_cons, List.filter_cons, ih]
        by_cases hz : ocP y x.cps.toList z = true
        · rw [if_pos hz, if_pos hz]; rfl
        · rw [if_neg hz, if_neg hz]
    rw [en]
    exact ⟨_, Sub.refl _, q D ⟨hD⟩⟩
theorem hdW_len (p w : List Nat) : (hdW p w).length ≤ p.length - 1 := by unfold hdW; rw [List.length_take]; omega
theorem tlW_len (p w : List Nat) : (tlW p w).length ≤ p.length - 1 := by unfold tlW; rw [List.length_drop]; omega
theorem w_endsof (wf : WF S) (hx1 : 1 ≤ sz x) (hx8 : sz x ≤ 8) (room : S.length + 4 < sizeLine) : ∀ {n k t : Nat} {g : G} {Q : VG} {E : XG} (H : FdAt g F a kn en S x) (h0 : 0 < t) (h1 : t ≤ S.length) (hn : hgT S t < n) (hk : n ≤ k)
    (q : ∀ g' p, FdAt g' F a kn en S x → OffL [en] g g' → g' p = some (.tup [.str (strT (hdW x.cps.toList (rd S t))), .str (strT (tlW x.cps.toList (rd S t)))]) → Q (.ref p) g'), Gam kl bsP defs k 94 [.ref F, .int t] g Q E := by
  intro n
  induction n with
  | zero => intro k t g Q E H h0 h1 hn; omega
  | succ n ih =>
    intro k t g Q E H h0 h1 hn hk q
    obtain ⟨k, rfl⟩ : ∃ j, k = j + 1 := ⟨k - 1, by omega⟩
    have hs : sizeLine = 16777216 := rfl
    have lx : x.length = sz x := rfl
    have lxl : x.cps.toList.length = sz x := tl_len' x
    obtain ⟨kvs, ge, len, ok⟩ := H.e
    haveI i1 : At g F _ := ⟨H.f⟩
    haveI i2 : At g a _ := ⟨H.s⟩
    haveI i3 : At g en _ := ⟨ge⟩
    refine gam_of d94.h rfl ?_
    show b_Finder_ends_of _ _ [some (.ref F), some (.int t), none, none, none, none] _
    unfold b_Finder_ends_of
    repeat refine go ?_
    refine nin_dI ?_
    cases hv : valV kvs (.inl (t : Int)) with
    | some v =>
      obtain ⟨m, p, c1, c2, c3, c4⟩ := ok _ _ hv
      have em : m = t := by injection c2 with c2; omega
      subst em c3
      repeat refine go ?_
      refine ifF ?_
      repeat refine go ?_
      refine ix_dI hv ?_
      exact ⟨_, Sub.refl _, q g p H OffL.refl c4⟩
    | none =>
      repeat refine go ?_
      refine ifT ?_
      repeat refine go ?_
      refine ⟨by omega, ?_⟩
      repeat refine go ?_
      have er : (x.length : Int) - 1 = ((sz x - 1 : Nat) : Int) := by omega
      rw [er]
      -- the store, and what is told
      have tail : ∀ (g1 : G) (c : Addr) (hd tl : List Nat) (v3 : Option V), FdAt g1 F a kn en S x → OffL [en] g g1 → (∀ kvs1, g1 en = some (.dK kvs1) → (valV kvs1 (.inl (t : Int)) = none ∨ ∃ p, valV kvs1 (.inl (t : Int)) = some (.ref p))) → hd.length ≤ 100 → tl.length ≤ 100 → hdW x.cps.toList hd = hdW x.cps.toList (rd S t) → tlW x.cps.toList tl = tlW x.cps.toList (rd S t) →
          (sSeq (sSetIx (eAt (eV 0) 16) (eV 1) (eTup (lCons (eSl (eV 4) oNone (oSome (eV 2))) (lCons (eSl (eV 5) (oSome (eBi .max (lCons (eC (.int 0)) (lCons (eBin .Sub (eBi .len (lCons (eV 5) lNil)) (eV 2)) lNil)))) oNone) lNil)))) sNext) ⟨kl, Gam kl bsP defs k, fun e x g' => ∃ g'', Sub g'' g' ∧ E e g''⟩
          ⟨sSeq (sRet (eIx (eAt (eV 0) 16) (eV 1))) sNext ⟨kl, Gam kl bsP defs k, fun e x g' => ∃ g'', Sub g'' g' ∧ E e g''⟩ ⟨fun x g' => ∃ g'', Sub g'' g' ∧ Q V.non g'', fun v g' => ∃ g'', Sub g'' g' ∧ Q v g'', fun _ _ => False, fun _ _ => False⟩, fun v g' => ∃ g'', Sub g'' g' ∧ Q v g'', fun _ _ => False, fun _ _ => False⟩
          [some (.ref F), some (.int t), some (.int ((sz x - 1 : Nat) : Int)), v3, some (.str (strT hd)), some (.str (strT tl))] g1 := by
        intro g1 c hd tl v3 H1 o1 hnew l1 l2 e1 e2
        obtain ⟨kv1, ge1, len1, ok1⟩ := H1.e
        haveI j1 : At g1 F _ := ⟨H1.f⟩
        haveI j3 : At g1 en _ := ⟨ge1⟩
        have lh : (strT hd).length = hd.length := strT_len hd
        have lt : (strT tl).length = tl.length := strT_len tl
        repeat refine go ?_
        refine ⟨by omega, ?_⟩
        rw [cutS_to, tl_strT]
        repeat refine go ?_
        refine ⟨by omega, ?_⟩
        repeat refine go ?_
        have em : (if ((strT tl).length : Int) - ((sz x - 1 : Nat) : Int) > 0 then ((strT tl).length : Int) - ((sz x - 1 : Nat) : Int) else 0) = ((tl.length - (sz x - 1) : Nat) : Int) := by rw [lt]; split <;> omega
        rw [em]
        refine ⟨by omega, ?_⟩
        rw [cutS_from, tl_strT]
        repeat refine go ?_
        have eh : (⟨(hd.take (sz x - 1)).toArray⟩ : Str) = strT (hdW x.cps.toList (rd S t)) := by rw [← e1]; unfold hdW; rw [lxl]; rfl
        have et : (⟨(tl.drop (tl.length - (sz x - 1))).toArray⟩ : Str) = strT (tlW x.cps.toList (rd S t)) := by rw [← e2]; unfold tlW; rw [lxl]; rfl
        rw [eh, et]
        refine ⟨by simp [sizeLine], fun p fp => ?_⟩
        haveI nep : NeA en p := NeA.of_fr j3 fp
        haveI nep' := nep.symm
        repeat refine go ?_
        have := miss_le kv1 (S.length + 1)
        refine put_dI (by omega) ?_
        have H2 := H1.sub (Sub.new (o := .tup [.str (strT (hdW x.cps.toList (rd S t))), .str (strT (tlW x.cps.toList (rd S t)))]) fp.h)
        have gp : (gu g1 p (.tup [.str (strT (hdW x.cps.toList (rd S t))), .str (strT (tlW x.cps.toList (rd S t)))])) p = some (.tup [.str (strT (hdW x.cps.toList (rd S t))), .str (strT (tlW x.cps.toList (rd S t)))]) := gus
        have o2 : OffL [en] g (gu g1 p (.tup [.str (strT (hdW x.cps.toList (rd S t))), .str (strT (tlW x.cps.toList (rd S t)))])) := o1.trans fun b o _ hb => Sub.new fp.h b o hb
        have ge2 : (gu g1 p (.tup [.str (strT (hdW x.cps.toList (rd S t))), .str (strT (tlW x.cps.toList (rd S t)))])) en = some (.dK kv1) := Sub.new fp.h _ _ ge1
        generalize (gu g1 p (.tup [.str (strT (hdW x.cps.toList (rd S t))), .str (strT (tlW x.cps.toList (rd S t)))])) = g2 at *
        have nF : F ≠ en := fun z => by have := H2.f; rw [z, ge2] at this; cases this
        have na : a ≠ en := fun z => by have := H2.s; rw [z, ge2] at this; cases this
        have ntup : ∀ {b xs}, g2 b = some (.tup xs) → (gu g2 en (.dK (putK kv1 (.inl (t : Int)) (.ref p)))) b = some (.tup xs) := fun {b xs} hb => by
          rw [gun (fun z => by rw [z, ge2] at hb; cases hb)]; exact hb
        obtain ⟨k1, a1, a2, a3, a4⟩ := H2.k
        have ok2 : ∀ key v, valV kv1 key = some v → ∃ (n : Nat) (p : Addr), n ≤ S.length ∧ key = .inl (n : Int) ∧ v = .ref p ∧ g2 p = some (.tup [.str (strT (hdW x.cps.toList (rd S n))), .str (strT (tlW x.cps.toList (rd S n)))]) := by
          obtain ⟨kv3, b1, b2, b3⟩ := H2.e
          rw [ge2] at b1
          cases b1
          exact b3
        have H3 : FdAt (gu g2 en (.dK (putK kv1 (.inl (t : Int)) (.ref p)))) F a kn en S x := by
          refine ⟨by rw [gun nF]; exact H2.f, by rw [gun na]; exact H2.s, ⟨k1, by rw [gun H.ne]; exact a1, a2, a3, a4⟩, ⟨_, gus, ?_, fun key v hkv => ?_⟩, H.ne⟩
          · rcases hnew _ ge1 with hn1 | ⟨p1, hn1⟩
            · have h1 := miss_put kv1 t (.ref p) hn1 (S.length + 1) (by omega)
              have h2 := putK_new (v := .ref p) hn1
              omega
            · have h1 := miss_mono kv1 t (.ref p) (S.length + 1)
              have h2 : (putK kv1 (.inl (t : Int)) (.ref p)).length = kv1.length := by
                unfold putK
                rw [valV_any, hn1]
                simp
              omega
          · rw [valV_put] at hkv
            split at hkv
            · rename_i ek
              cases hkv
              exact ⟨t, p, h1, ek, rfl, ntup gp⟩
            · obtain ⟨m, p2, c1, c2, c3, c4⟩ := ok2 key v hkv
              exact ⟨m, p2, c1, c2, c3, ntup c4⟩
        have hvt : valV (putK kv1 (.inl (t : Int)) (.ref p)) (.inl (t : Int)) = some (.ref p) := by rw [valV_put, if_pos rfl]
        haveI z1 : At (gu g2 en (.dK (putK kv1 (.inl (t : Int)) (.ref p)))) F _ := ⟨H3.f⟩
        repeat refine go ?_
        refine ix_dI hvt ?_
        refine ⟨_, Sub.refl _, q _ p H3 (fun b o hb hbo => ?_) (ntup gp)⟩
        have hbe : b ≠ en := by simpa using hb
        rw [gun hbe]; exact o2 b o hb hbo
      rcases wf.nd h0 h1 with ⟨y, nd⟩ | ⟨u, v, nd⟩
      · haveI : PcL S t y := ⟨nd.pc⟩
        repeat refine go ?_
        intro c hc
        repeat refine go ?_
        refine ⟨_, rfl, ?_⟩
        repeat refine go ?_
        refine ifD rfl ?_
        repeat refine go ?_
        refine ⟨_, rfl, ?_⟩
        repeat refine go ?_
        refine ⟨_, rfl, ?_⟩
        refine go (go ?_)
        have h8 : y.cps.toList.length ≤ 8 := by rw [tl_len']; exact nd.ok.h8
        have := tail _ c y.cps.toList y.cps.toList (some (.ref c)) (H.sub hc.sub) (fun b o _ hb => hc.sub b o hb) (fun kv1 hk1 => .inl (by
          have h2 := hc.sub _ _ ge
          rw [hk1] at h2
          cases h2; exact hv)) (by omega) (by omega) (by rw [nd.rd]) (by rw [nd.rd])
        rw [strT_tl] at this
        exact this
      · haveI : PcF S t u v := ⟨nd.pc⟩
        have hu := nd.a1
        have hvv := nd.b1
        have hht := nd.ht
        repeat refine go ?_
        intro c hc
        repeat refine go ?_
        refine ⟨_, rfl, ?_⟩
        repeat refine go ?_
        refine ifDn (by decide +kernel) ?_
        have Hc := H.sub hc.sub
        have gc : (gu g c (.tup [.str "fork", .int u, .int v])) c = some (.tup [.str "fork", .int u, .int v]) := gus
        have oc : OffL [en] g (gu g c (.tup [.str "fork", .int u, .int v])) := fun b o _ hb => hc.sub b o hb
        generalize (gu g c (.tup [.str "fork", .int u, .int v])) = g0 at *
        haveI z0 : At g0 F _ := ⟨Hc.f⟩
        haveI y0 : At g0 c _ := ⟨gc⟩
        repeat refine go ?_
        refine ⟨_, rfl, ?_⟩
        repeat refine go ?_
        have nce : ∀ {g1 : G}, FdAt g1 F a kn en S x → g1 c = some (.tup [.str "fork", .int u, .int v]) → c ≠ en := fun {g1} h1 h2 z => by
          obtain ⟨_, b1, _⟩ := h1.e
          rw [z, b1] at h2; cases h2
        have hce := nce Hc gc
        refine ih Hc nd.a0 (by omega) (by omega) (by omega) fun g1 p1 H1 o1 e1 => ?_
        have gc1 := o1 c _ (by simpa using hce) gc
        haveI z1 : At g1 F _ := ⟨H1.f⟩
        haveI y1 : At g1 c _ := ⟨gc1⟩
        haveI x1 : At g1 p1 _ := ⟨e1⟩
        repeat refine go ?_
        refine ⟨_, rfl, ?_⟩
        repeat refine go ?_
        refine ⟨_, rfl, ?_⟩
        repeat refine go ?_
        refine ih H1 nd.b0 (by omega) (by omega) (by omega) fun g2 p2 H2 o2 e2 => ?_
        have gc2 := o2 c _ (by simpa using hce) gc1
        haveI z2 : At g2 F _ := ⟨H2.f⟩
        haveI y2 : At g2 c _ := ⟨gc2⟩
        haveI x2 : At g2 p2 _ := ⟨e2⟩
        repeat refine go ?_
        refine ⟨_, rfl, ?_⟩
        have a1 := hdW_len x.cps.toList (rd S u)
        have a2 := hdW_len x.cps.toList (rd S v)
        have a3 := tlW_len x.cps.toList (rd S u)
        have a4 := tlW_len x.cps.toList (rd S v)
        repeat refine go ?_
        refine ⟨by rw [strT_len, strT_len]; omega, ?_⟩
        rw [← strT_app]
        repeat refine go ?_
        refine ⟨_, rfl, ?_⟩
        repeat refine go ?_
        refine ih H2 nd.a0 (by omega) (by omega) (by omega) fun g3 p3 H3 o3 e3 => ?_
        have gc3 := o3 c _ (by simpa using hce) gc2
        haveI z3 : At g3 F _ := ⟨H3.f⟩
        haveI y3 : At g3 c _ := ⟨gc3⟩
        haveI x3 : At g3 p3 _ := ⟨e3⟩
        repeat refine go ?_
        refine ⟨_, rfl, ?_⟩
        repeat refine go ?_
        refine ⟨_, rfl, ?_⟩
        repeat refine go ?_
        refine ih H3 nd.b0 (by omega) (by omega) (by omega) fun g4 p4 H4 o4 e4 => ?_
        haveI z4 : At g4 F _ := ⟨H4.f⟩
        haveI x4 : At g4 p4 _ := ⟨e4⟩
        repeat refine go ?_
        refine ⟨_, rfl, ?_⟩
        repeat refine go ?_
        refine ⟨by rw [strT_len, strT_len]; omega, ?_⟩
        rw [← strT_app]
        refine go (go ?_)
        refine tail g4 c _ _ _ H4 (((oc.trans o1).trans o2).trans (o3.trans o4)) (fun kv1 hk1 => ?_) (by rw [List.length_append]; omega) (by rw [List.length_append]; omega) (by rw [hd_app, nd.rd]) (by rw [tl_app, nd.rd])
        obtain ⟨kv4, b1, b2, b3⟩ := H4.e
        rw [hk1] at b1
        cases b1
        cases hz : valV kv1 (.inl (t : Int)) with
        | none => exact .inl rfl
        | some w =>
          obtain ⟨m, p, c1, c2, c3, c4⟩ := b3 _ _ hz
          exact .inr ⟨p, by rw [c3]⟩
end
end SW
end

section
set_option Elab.async false
set_option linter.all false
set_option maxRecDepth 100000
set_option maxHeartbeats 4000000
/-! How often a word stands, and where. -/
namespace SW
open PySem L2
set_option synthInstance.maxHeartbeats 200000
set_option synthInstance.maxSize 100000
theorem OffL.wide {L L' : List Addr} {g g' : G} (h : OffL L g g') (s : ∀ a, a ∈ L → a ∈ L') : OffL L' g g' := fun a o ha e => h a o (fun z => ha (s a z)) e
section
variable {kl : Addr → List V → Prop} {defs : Nat → Option FDef} {g : G} {F a kn en : Addr} {S : Sh} {x : Str} [d92 : DefAt defs 92 d_places_in] [d94 : DefAt defs 94 d_Finder_ends_of] [d95 : DefAt defs 95 d_Finder_seam] [d96 : DefAt defs 96 d_Finder_often] [d97 : DefAt defs 97 d_Finder_place]
theorem w_seam (wf : WF S) (hx1 : 1 ≤ sz x) (hx8 : sz x ≤ 8) (room : S.length + 4 < sizeLine) {k u v : Nat} {Q : VG} {E : XG} (H : FdAt g F a kn en S x) (hu0 : 0 < u) (hu1 : u ≤ S.length) (hv0 : 0 < v) (hv1 : v ≤ S.length) (hku : hgT S u + 2 ≤ k) (hkv : hgT S v + 2 ≤ k)
    (q : ∀ g' r l, FdAt g' F a kn en S x → OffL [en] g g' → g' r = some (.tup [.int (((rd S u).length - (tlW x.cps.toList (rd S u)).length : Nat) : Int), .ref l]) → g' l = some (.lst ((occL (tlW x.cps.toList (rd S u) ++ hdW x.cps.toList (rd S v)) x.cps.toList).map nV)) → Q (.ref r) g') : Gam kl bsP defs k 95 [.ref F, .int u, .int v] g Q E := by
  obtain ⟨k, rfl⟩ : ∃ j, k = j + 1 := ⟨k - 1, by omega⟩
  refine gam_of d95.h rfl ?_
  show b_Finder_seam _ _ [some (.ref F), some (.int u), some (.int v), none, none] _
  unfold b_Finder_seam
  have hs : sizeLine = 16777216 := rfl
  have lxl : x.cps.toList.length = sz x := tl_len' x
  haveI i1 : At g F _ := ⟨H.f⟩
  repeat refine go ?_
  refine w_endsof wf hx1 hx8 room H hu0 hu1 (n := k) (by omega) (Nat.le_refl _) fun g1 p1 H1 o1 e1 => ?_
  haveI z1 : At g1 F _ := ⟨H1.f⟩
  haveI y1 : At g1 a _ := ⟨H1.s⟩
  haveI x1 : At g1 p1 _ := ⟨e1⟩
  repeat refine go ?_
  refine ⟨_, rfl, ?_⟩
  repeat refine go ?_
  refine ⟨hu1, ?_⟩
  have lt := tlW_len x.cps.toList (rd S u)
  have lh := hdW_len x.cps.toList (rd S v)
  have ltu : (tlW x.cps.toList (rd S u)).length ≤ (rd S u).length := by unfold tlW; rw [List.length_drop]; omega
  have ls := strT_len (tlW x.cps.toList (rd S u))
  repeat refine go ?_
  refine ⟨by omega, ?_⟩
  have el : ((sgT S u : Nat) : Int) - ((strT (tlW x.cps.toList (rd S u))).length : Int) = (((rd S u).length - (tlW x.cps.toList (rd S u)).length : Nat) : Int) := by
    rw [← wf.len u hu1]; omega
  repeat refine go ?_
  rw [el]
  repeat refine go ?_
  refine w_endsof wf hx1 hx8 room H1 hv0 hv1 (n := k) (by omega) (Nat.le_refl _) fun g2 p2 H2 o2 e2 => ?_
  haveI z2 : At g2 F _ := ⟨H2.f⟩
  haveI x2 : At g2 p2 _ := ⟨e2⟩
  repeat refine go ?_
  refine ⟨_, rfl, ?_⟩
  repeat refine go ?_
  refine ⟨by rw [strT_len, strT_len]; omega, ?_⟩
  rw [← strT_app]
  repeat refine go ?_
  refine w_places (by rw [List.length_append]; omega) hx8 (by omega) fun r hr => ?_
  refine ⟨by simp [sizeLine], fun p fp => ?_⟩
  have s3 : Sub g2 (gu (gu g2 r (.lst ((occL (tlW x.cps.toList (rd S u) ++ hdW x.cps.toList (rd S v)) x.cps.toList).map nV))) p (.tup [.int (((rd S u).length - (tlW x.cps.toList (rd S u)).length : Nat) : Int), .ref r])) := (Sub.new hr.h).trans (Sub.new fp.h)
  refine ⟨_, Sub.refl _, q _ p r (H2.sub s3) ((o1.trans o2).trans fun b o _ hb => s3 b o hb) gus ?_⟩
  rw [gun (fun z => by have := fp.h; rw [← z, gus] at this; cases this)]
  exact gus
theorem w_often (wf : WF S) (hx1 : 1 ≤ sz x) (hx8 : sz x ≤ 8) (room : S.length + 4 < sizeLine) : ∀ {n k t : Nat} {g : G} {Q : VG} {E : XG} (H : FdAt g F a kn en S x) (h1 : t ≤ S.length) (hn : hgT S t < n) (hk : n + 3 ≤ k)
    (q : ∀ g', FdAt g' F a kn en S x → OffL [kn, en] g g' → Q (nV (occL (rd S t) x.cps.toList).length) g'), Gam kl bsP defs k 96 [.ref F, .int t] g Q E := by
  intro n
  induction n with
  | zero => intro k t g Q E H h1 hn; omega
  | succ n ih =>
    intro k t g Q E H h1 hn hk q
    obtain ⟨k, rfl⟩ : ∃ j, k = j + 1 := ⟨k - 1, by omega⟩
    have hs : sizeLine = 16777216 := rfl
    obtain ⟨kvs, ge, len, kz, ok⟩ := H.k
    haveI i1 : At g F _ := ⟨H.f⟩
    haveI i2 : At g a _ := ⟨H.s⟩
    haveI i3 : At g kn _ := ⟨ge⟩
    refine gam_of d96.h rfl ?_
    show b_Finder_often _ _ [some (.ref F), some (.int t), none, none] _
    unfold b_Finder_often
    repeat refine go ?_
    refine nin_dI ?_
    cases hv : valV kvs (.inl (t : Int)) with
    | some v =>
      obtain ⟨m, c1, c2, c3⟩ := ok _ _ hv
      have em : m = t := by injection c2 with c2; omega
      subst em c3
      repeat refine go ?_
      refine ifF ?_
      repeat refine go ?_
      refine ix_dI hv ?_
      exact ⟨_, Sub.refl _, q g H OffL.refl⟩
    | none =>
      have h0 : 0 < t := by
        rcases Nat.eq_zero_or_pos t with e | e
        · subst e
          have : (Sum.inl ((0 : Nat) : Int) : Key) = .inl 0 := rfl
          rw [this, kz] at hv; cases hv
        · exact e
      repeat refine go ?_
      refine ifT ?_
      repeat refine go ?_
      have tail : ∀ (g1 : G), FdAt g1 F a kn en S x → OffL [kn, en] g g1 → ∃ kv1, g1 kn = some (.dK kv1) ∧ kv1.length < sizeLine ∧ FdAt (gu g1 kn (.dK (putK kv1 (.inl (t : Int)) (nV (occL (rd S t) x.cps.toList).length)))) F a kn en S x ∧ OffL [kn, en] g (gu g1 kn (.dK (putK kv1 (.inl (t : Int)) (nV (occL (rd S t) x.cps.toList).length)))) := by
        intro g1 H1 o1
        obtain ⟨kv1, ge1, len1, kz1, ok1⟩ := H1.k
        obtain ⟨k2, b1, b2, b3⟩ := H1.e
        have nF : F ≠ kn := fun z => by have := H1.f; rw [z, ge1] at this; cases this
        have na : a ≠ kn := fun z => by have := H1.s; rw [z, ge1] at this; cases this
        refine ⟨kv1, ge1, by omega, ⟨by rw [gun nF]; exact H1.f, by rw [gun na]; exact H1.s, ⟨_, gus, ?_, ?_, fun key v hkv => ?_⟩, ⟨k2, by rw [gun H1.ne.symm]; exact b1, b2, fun key v hkv => ?_⟩, H1.ne⟩, fun b o hb hbo => ?_⟩
        · cases hz : valV kv1 (.inl (t : Int)) with
          | none =>
            have h1 := miss_put kv1 t (nV (occL (rd S t) x.cps.toList).length) hz (S.length + 1) (by omega)
            have h2 := putK_new (v := nV (occL (rd S t) x.cps.toList).length) hz
            omega
          | some w =>
            have h1 := miss_mono kv1 t (nV (occL (rd S t) x.cps.toList).length) (S.length + 1)
            have h2 : (putK kv1 (.inl (t : Int)) (nV (occL (rd S t) x.cps.toList).length)).length = kv1.length := by
              unfold putK
              rw [valV_any, hz]
              simp
            omega
        · rw [valV_put, if_neg (fun z => by injection z with z; omega)]; exact kz1
        · rw [valV_put] at hkv
          split at hkv
          · rename_i ek
            cases hkv
            exact ⟨t, h1, ek, rfl⟩
          · exact ok1 key v hkv
        · obtain ⟨m, p2, c1, c2, c3, c4⟩ := b3 key v hkv
          exact ⟨m, p2, c1, c2, c3, by rw [gun (fun z => by rw [z, ge1] at c4; cases c4)]; exact c4⟩
        · have hbe : b ≠ kn := fun z => hb (by rw [z]; simp)
          rw [gun hbe]; exact o1 b o hb hbo
      rcases wf.nd h0 h1 with ⟨y, nd⟩ | ⟨u, v, nd⟩
      · haveI : PcL S t y := ⟨nd.pc⟩
        repeat refine go ?_
        intro c hc
        repeat refine go ?_
        refine ⟨_, rfl, ?_⟩
        repeat refine go ?_
        refine ifD rfl ?_
        repeat refine go ?_
        refine ⟨_, rfl, ?_⟩
        have h8 : y.cps.toList.length ≤ 8 := by rw [tl_len']; exact nd.ok.h8
        have Hc := H.sub hc.sub
        have oc : OffL [kn, en] g (gu g c (.tup [.str "leaf", .str y])) := fun b o _ hb => hc.sub b o hb
        generalize (gu g c (.tup [.str "leaf", .str y])) = g0 at *
        haveI z0 : At g0 F _ := ⟨Hc.f⟩
        repeat refine go ?_
        rw [show y = strT y.cps.toList from (strT_tl _).symm]
        refine w_places (by omega) hx8 (by omega) fun r hr => ?_
        rw [← nd.rd]
        have ol := occ_le (rd S t) x.cps.toList
        rw [nd.rd] at ol
        have H2 := Hc.sub (Sub.new (o := .lst ((occL (rd S t) x.cps.toList).map nV)) hr.h)
        have o2 : OffL [kn, en] g (gu g0 r (.lst ((occL (rd S t) x.cps.toList).map nV))) := oc.trans fun b o _ hb => Sub.new hr.h b o hb
        obtain ⟨kv1, a1, a2, a3, a4⟩ := tail _ H2 o2
        haveI z1 : At (gu g0 r (.lst ((occL (rd S t) x.cps.toList).map nV))) F _ := ⟨H2.f⟩
        haveI z2 : At (gu g0 r (.lst ((occL (rd S t) x.cps.toList).map nV))) kn _ := ⟨a1⟩
        haveI z3 : At (gu (gu g0 r (.lst ((occL (rd S t) x.cps.toList).map nV))) kn (.dK (putK kv1 (.inl (t : Int)) (nV (occL (rd S t) x.cps.toList).length)))) F _ := ⟨a3.f⟩
        repeat refine go ?_
        have er : ((((occL (rd S t) x.cps.toList).map nV).length : Nat) : Int) = ((occL (rd S t) x.cps.toList).length : Int) := by rw [List.length_map]
        rw [er]
        refine put_dI a2 ?_
        have hvt : valV (putK kv1 (.inl (t : Int)) (nV (occL (rd S t) x.cps.toList).length)) (.inl (t : Int)) = some (nV (occL (rd S t) x.cps.toList).length) := by rw [valV_put, if_pos rfl]
        repeat refine go ?_
        refine ix_dI hvt ?_
        exact ⟨_, Sub.refl _, q _ a3 a4⟩
      · haveI : PcF S t u v := ⟨nd.pc⟩
        have hu := nd.a1
        have hvv := nd.b1
        have hht := nd.ht
        repeat refine go ?_
        intro c hc
        repeat refine go ?_
        refine ⟨_, rfl, ?_⟩
        repeat refine go ?_
        refine ifDn (by decide +kernel) ?_
        have Hc := H.sub hc.sub
        have gc : (gu g c (.tup [.str "fork", .int u, .int v])) c = some (.tup [.str "fork", .int u, .int v]) := gus
        have oc : OffL [kn, en] g (gu g c (.tup [.str "fork", .int u, .int v])) := fun b o _ hb => hc.sub b o hb
        generalize (gu g c (.tup [.str "fork", .int u, .int v])) = g0 at *
        haveI z0 : At g0 F _ := ⟨Hc.f⟩
        haveI y0 : At g0 c _ := ⟨gc⟩
        have nc1 : c ≠ en := fun z => by
          obtain ⟨_, b1, _⟩ := Hc.e
          rw [← z, gc] at b1; cases b1
        have nc2 : c ≠ kn := fun z => by
          obtain ⟨_, b1, _⟩ := Hc.k
          rw [← z, gc] at b1; cases b1
        repeat refine go ?_
        refine ⟨_, rfl, ?_⟩
        repeat refine go ?_
        refine ⟨_, rfl, ?_⟩
        repeat refine go ?_
        refine w_seam wf hx1 hx8 room Hc nd.a0 (by omega) nd.b0 (by omega) (by omega) (by omega) fun g1 r l H1 o1 gr gl => ?_
        have gc1 := o1 c _ (by simpa using nc1) gc
        haveI z1 : At g1 F _ := ⟨H1.f⟩
        haveI y1 : At g1 c _ := ⟨gc1⟩
        haveI x1 : At g1 r _ := ⟨gr⟩
        haveI w1 : At g1 l _ := ⟨gl⟩
        have lt := tlW_len x.cps.toList (rd S u)
        have lh := hdW_len x.cps.toList (rd S v)
        have lxl : x.cps.toList.length = sz x := tl_len' x
        have ol := occ_le (tlW x.cps.toList (rd S u) ++ hdW x.cps.toList (rd S v)) x.cps.toList
        rw [List.length_append] at ol
        repeat refine go ?_
        refine ⟨_, rfl, ?_⟩
        repeat refine go ?_
        refine ⟨_, rfl, ?_⟩
        repeat refine go ?_
        refine ih H1 (by omega) (by omega) (by omega) fun g2 H2 o2 => ?_
        have gc2 := o2 c _ (by simp [nc1, nc2]) gc1
        haveI z2 : At g2 F _ := ⟨H2.f⟩
        haveI y2 : At g2 c _ := ⟨gc2⟩
        have bu := occ_le (rd S u) x.cps.toList
        have bv := occ_le (rd S v) x.cps.toList
        have bg1 := Rd.big wf ⟨show u ≤ S.length by omega, rfl⟩
        have bg2 := Rd.big wf ⟨show v ≤ S.length by omega, rfl⟩
        have eocc := occ_app (A := rd S u) (B := rd S v) (p := x.cps.toList) (by omega)
        rw [← nd.rd] at eocc
        have elen : (occL (rd S t) x.cps.toList).length = (occL (rd S u) x.cps.toList).length + (occL (tlW x.cps.toList (rd S u) ++ hdW x.cps.toList (rd S v)) x.cps.toList).length + (occL (rd S v) x.cps.toList).length := by
          rw [eocc, List.length_append, List.length_append, List.length_map, List.length_map]
        repeat refine go ?_
        refine ⟨_, rfl, ?_⟩
        repeat refine go ?_
        refine ih H2 (by omega) (by omega) (by omega) fun g3 H3 o3 => ?_
        haveI z3 : At g3 F _ := ⟨H3.f⟩
        obtain ⟨kv1, a1, a2, a3, a4⟩ := tail g3 H3 (((oc.trans (o1.wide (by simp))).trans o2).trans o3)
        haveI w3 : At g3 kn _ := ⟨a1⟩
        repeat refine go ?_
        have er : (((occL (rd S u) x.cps.toList).length : Nat) : Int) + ((((occL (tlW x.cps.toList (rd S u) ++ hdW x.cps.toList (rd S v)) x.cps.toList).map nV).length : Nat) : Int) + (((occL (rd S v) x.cps.toList).length : Nat) : Int) = ((occL (rd S t) x.cps.toList).length : Int) := by
          rw [List.length_map, elen]; omega
        rw [er]
        haveI z4 : At (gu g3 kn (.dK (putK kv1 (.inl (t : Int)) (nV (occL (rd S t) x.cps.toList).length)))) F _ := ⟨a3.f⟩
        refine put_dI a2 ?_
        have hvt : valV (putK kv1 (.inl (t : Int)) (nV (occL (rd S t) x.cps.toList).length)) (.inl (t : Int)) = some (nV (occL (rd S t) x.cps.toList).length) := by rw [valV_put, if_pos rfl]
        repeat refine go ?_
        refine ix_dI hvt ?_
        exact ⟨_, Sub.refl _, q _ a3 a4⟩
end
end SW
end

section
set_option Elab.async false
set_option linter.all false
set_option maxRecDepth 100000
set_option maxHeartbeats 4000000
/-! The k-th place of a word; the two deeds. -/
namespace SW
open PySem L2
set_option synthInstance.maxHeartbeats 200000
set_option synthInstance.maxSize 100000
/-- a piece told -/
inductive PcAt (S : Sh) (u : Nat) (c : Addr) (g : G) : Prop
  | leaf {y : Str} (n : NdL S u y) (h : g c = some (.tup [.str "leaf", .str y]))
  | fork {l r : Nat} (n : NdF S u l r) (h : g c = some (.tup [.str "fork", .int l, .int r]))
theorem pc_any {kl : Addr → List V → Prop} {defs : Nat → Option FDef} {k : Nat} {g : G} {Q : VG} {E : XG} {a : Addr} {S : Sh} (wf : WF S) (sa : g a = some (.shf S)) {u : Nat} (h0 : 0 < u) (h1 : u ≤ S.length) (q : ∀ g' c, Sub g g' → PcAt S u c g' → Q (.ref c) g') : Gam kl bsP defs k 13 [.ref a, .int u] g Q E := by
  haveI i1 : At g a _ := ⟨sa⟩
  rcases wf.nd h0 h1 with ⟨y, nd⟩ | ⟨u, v, nd⟩
  · haveI : PcL S _ y := ⟨nd.pc⟩
    refine go ?_
    intro c hc
    exact q _ c hc.sub (.leaf nd gus)
  · haveI : PcF S _ u v := ⟨nd.pc⟩
    refine go ?_
    intro c hc
    exact q _ c hc.sub (.fork nd gus)
section
variable {kl : Addr → List V → Prop} {defs : Nat → Option FDef} {g : G} {F a kn en : Addr} {S : Sh} {x : Str} [d2 : DefAt defs 2 d_is_plain] [d91 : DefAt defs 91 d_look_at_word] [d93 : DefAt defs 93 d_Finder___init__] [d92 : DefAt defs 92 d_places_in] [d94 : DefAt defs 94 d_Finder_ends_of] [d95 : DefAt defs 95 d_Finder_seam] [d96 : DefAt defs 96 d_Finder_often] [d97 : DefAt defs 97 d_Finder_place] [d98 : DefAt defs 98 d_count_of] [d99 : DefAt defs 99 d_place_of]
theorem w_place (wf : WF S) (hx1 : 1 ≤ sz x) (hx8 : sz x ≤ 8) (room : S.length + 4 < sizeLine) {k t j o : Nat} {Q : VG} {E : XG} (H : FdAt g F a kn en S x) (h0 : 0 < t) (h1 : t ≤ S.length) (hj : (occL (rd S t) x.cps.toList)[j]? = some o) (hk : hgT S t + 6 ≤ k)
    (q : ∀ g', FdAt g' F a kn en S x → OffL [kn, en] g g' → Q (nV o) g') : Gam kl bsP defs k 97 [.ref F, .int t, .int j] g Q E := by
  obtain ⟨k, rfl⟩ : ∃ j, k = j + 1 := ⟨k - 1, by omega⟩
  refine gam_of d97.h rfl ?_
  show b_Finder_place _ _ [some (.ref F), some (.int t), some (.int j), none, none, none, none, none] _
  unfold b_Finder_place
  have hs : sizeLine = 16777216 := rfl
  have lxl : x.cps.toList.length = sz x := tl_len' x
  haveI i1 : At g F _ := ⟨H.f⟩
  haveI i2 : At g a _ := ⟨H.s⟩
  repeat refine go ?_
  refine pc_any wf H.s h0 h1 fun g1 c s1 hc => ?_
  repeat refine go ?_
  have bigt := Rd.big wf ⟨h1, rfl⟩
  refine ⟨fun m s g' => ∃ (u j' o' ah : Nat) (c : Addr) (v5 v6 v7 : Option V), m = hgT S u ∧ 0 < u ∧ u ≤ S.length ∧ hgT S u ≤ hgT S t ∧ (occL (rd S u) x.cps.toList)[j']? = some o' ∧ o = ah + o' ∧ ah + (rd S u).length ≤ (rd S t).length ∧ PcAt S u c g' ∧ FdAt g' F a kn en S x ∧ OffL [kn, en] g g' ∧ s = [some (.ref F), some (.int t), some (.int j'), some (.int ah), some (.ref c), v5, v6, v7],
    ⟨hgT S t, t, j, o, 0, c, none, none, none, rfl, h0, h1, Nat.le_refl _, hj, by omega, by omega, hc, H.sub s1, fun b o _ hb => s1 b o hb, rfl⟩, ?_⟩
  rintro m s g' ⟨u, j', o', ah, c, v5, v6, v7, rfl, u0, u1, uh, uj, uo, ul, up, H', o'', rfl⟩
  haveI z0 : At g' F _ := ⟨H'.f⟩
  have jlen : j' < (occL (rd S u) x.cps.toList).length := (List.getElem?_eq_some_iff.mp uj).1
  have olt : o' < (rd S u).length := occ_lt (List.mem_of_getElem? uj)
  cases up with
  | @leaf y nd hc =>
    haveI z1 : At g' c _ := ⟨hc⟩
    repeat refine go ?_
    refine ⟨_, rfl, ?_⟩
    repeat refine go ?_
    refine ifDn (by decide +kernel) ?_
    repeat refine go ?_
    refine ⟨_, rfl, ?_⟩
    repeat refine go ?_
    have h8 : y.cps.toList.length ≤ 8 := by rw [tl_len']; exact nd.ok.h8
    rw [show y = strT y.cps.toList from (strT_tl _).symm]
    refine w_places (by omega) hx8 (by omega) fun r hr => ?_
    rw [← nd.rd]
    have s3 : Sub g' (gu g' r (.lst ((occL (rd S u) x.cps.toList).map nV))) := Sub.new hr.h
    repeat refine go ?_
    have ea : atI ((occL (rd S u) x.cps.toList).map nV) (j' : Int) = some (nV o') := by
      rw [atI_nat (by rw [List.length_map]; exact jlen)]
      rw [List.getElem_map, (List.getElem?_eq_some_iff.mp uj).2]
    refine ⟨_, ea, ?_⟩
    repeat refine go ?_
    have er : (ah : Int) + (o' : Int) = (o : Int) := by omega
    refine ⟨_, Sub.refl _, ?_⟩
    show Q (.int ((ah : Int) + (o' : Int))) _
    rw [er]
    exact q _ (H'.sub s3) (o''.trans fun b o _ hb => s3 b o hb)
  | @fork l r nd hc =>
    haveI z1 : At g' c _ := ⟨hc⟩
    have hu := nd.a1
    have hvv := nd.b1
    have hht := nd.ht
    have nc1 : c ≠ en := fun z => by
      obtain ⟨_, b1, _⟩ := H'.e
      rw [← z, hc] at b1; cases b1
    have nc2 : c ≠ kn := fun z => by
      obtain ⟨_, b1, _⟩ := H'.k
      rw [← z, hc] at b1; cases b1
    repeat refine go ?_
    refine ⟨_, rfl, ?_⟩
    repeat refine go ?_
    refine ifD rfl ?_
    repeat refine go ?_
    refine ⟨_, rfl, ?_⟩
    repeat refine go ?_
    refine w_often wf hx1 hx8 room H' (n := hgT S l + 1) (by omega) (by omega) (by omega) fun g2 H2 o2 => ?_
    have gc2 := o2 c _ (by simp [nc1, nc2]) hc
    haveI z2 : At g2 F _ := ⟨H2.f⟩
    haveI y2 : At g2 c _ := ⟨gc2⟩
    repeat refine go ?_
    refine ⟨_, rfl, ?_⟩
    repeat refine go ?_
    refine ⟨_, rfl, ?_⟩
    repeat refine go ?_
    refine w_seam wf hx1 hx8 room H2 nd.a0 (by omega) nd.b0 (by omega) (by omega) (by omega) fun g3 r3 l3 H3 o3 gr gl => ?_
    have gc3 := o3 c _ (by simp [nc1]) gc2
    haveI z3 : At g3 F _ := ⟨H3.f⟩
    haveI z4 : At g3 a _ := ⟨H3.s⟩
    haveI y3 : At g3 c _ := ⟨gc3⟩
    haveI x3 : At g3 r3 _ := ⟨gr⟩
    haveI w3 : At g3 l3 _ := ⟨gl⟩
    have o13 : OffL [kn, en] g g3 := (o''.trans o2).trans (o3.wide (by simp))
    have bu := occ_le (rd S l) x.cps.toList
    have bv := occ_le (rd S r) x.cps.toList
    have ol := occ_le (tlW x.cps.toList (rd S l) ++ hdW x.cps.toList (rd S r)) x.cps.toList
    have lt := tlW_len x.cps.toList (rd S l)
    have lh := hdW_len x.cps.toList (rd S r)
    rw [List.length_append] at ol
    have eocc := occ_app (A := rd S l) (B := rd S r) (p := x.cps.toList) (by omega)
    rw [← nd.rd] at eocc
    have rlen : (rd S u).length = (rd S l).length + (rd S r).length := by rw [nd.rd, List.length_append]
    rw [eocc] at uj
    have elm : (((occL (tlW x.cps.toList (rd S l) ++ hdW x.cps.toList (rd S r)) x.cps.toList).map nV).length) = (occL (tlW x.cps.toList (rd S l) ++ hdW x.cps.toList (rd S r)) x.cps.toList).length := List.length_map ..
    have jlen2 : j' < (occL (rd S l) x.cps.toList).length + (occL (tlW x.cps.toList (rd S l) ++ hdW x.cps.toList (rd S r)) x.cps.toList).length + (occL (rd S r) x.cps.toList).length := by
      have := (List.getElem?_eq_some_iff.mp uj).1
      rw [List.length_append, List.length_append, List.length_map, List.length_map] at this
      exact this
    repeat refine go ?_
    refine ⟨rfl, ?_⟩
    repeat refine go ?_
    by_cases c1 : j' < (occL (rd S l) x.cps.toList).length
    · refine ifD (by omega) ?_
      rw [List.append_assoc, List.getElem?_append_left c1] at uj
      repeat refine go ?_
      refine ⟨_, rfl, ?_⟩
      repeat refine go ?_
      refine pc_any wf H3.s nd.a0 (by omega) fun g4 c4 s4 hc4 => ?_
      repeat refine go ?_
      exact ⟨hgT S l, _, by omega, Sub.refl _, l, j', o', ah, c4, _, _, _, rfl, nd.a0, by omega, by omega, uj, uo, by omega, hc4, H3.sub s4, o13.trans fun b o _ hb => s4 b o hb, rfl⟩
    · refine ifDn (by omega) ?_
      rw [List.append_assoc, List.getElem?_append_right (by omega)] at uj
      repeat refine go ?_
      by_cases c2 : j' - (occL (rd S l) x.cps.toList).length < (occL (tlW x.cps.toList (rd S l) ++ hdW x.cps.toList (rd S r)) x.cps.toList).length
      · refine ifD (by omega) ?_
        rw [List.getElem?_append_left (by rw [List.length_map]; exact c2), List.getElem?_map] at uj
        obtain ⟨z, hz, ez⟩ := Option.map_eq_some_iff.mp uj
        repeat refine go ?_
        have ea : atI ((occL (tlW x.cps.toList (rd S l) ++ hdW x.cps.toList (rd S r)) x.cps.toList).map nV) ((j' : Int) - ((occL (rd S l) x.cps.toList).length : Int)) = some (nV z) := by
          have e1 : (j' : Int) - ((occL (rd S l) x.cps.toList).length : Int) = ((j' - (occL (rd S l) x.cps.toList).length : Nat) : Int) := by omega
          rw [e1, atI_nat (by rw [List.length_map]; exact c2)]
          rw [List.getElem_map, (List.getElem?_eq_some_iff.mp hz).2]
        refine ⟨_, ea, ?_⟩
        repeat refine go ?_
        refine ⟨_, Sub.refl _, ?_⟩
        have er : (ah : Int) + (((rd S l).length - (tlW x.cps.toList (rd S l)).length : Nat) : Int) + (z : Int) = (o : Int) := by omega
        show Q (.int ((ah : Int) + (((rd S l).length - (tlW x.cps.toList (rd S l)).length : Nat) : Int) + (z : Int))) _
        rw [er]
        exact q _ H3 o13
      · refine ifDn (by omega) ?_
        rw [List.getElem?_append_right (by rw [List.length_map]; omega), List.getElem?_map, List.length_map] at uj
        obtain ⟨z, hz, ez⟩ := Option.map_eq_some_iff.mp uj
        have hlr : sgT S l = (rd S l).length := (wf.len l (by omega)).symm
        repeat refine go ?_
        refine ⟨_, rfl, ?_⟩
        repeat refine go ?_
        refine ⟨by omega, ?_⟩
        repeat refine go ?_
        refine ⟨_, rfl, ?_⟩
        repeat refine go ?_
        refine pc_any wf H3.s nd.b0 (by omega) fun g4 c4 s4 hc4 => ?_
        repeat refine go ?_
        have e1 : (j' : Int) - ((occL (rd S l) x.cps.toList).length : Int) - ((((occL (tlW x.cps.toList (rd S l) ++ hdW x.cps.toList (rd S r)) x.cps.toList).map nV).length : Nat) : Int) = ((j' - (occL (rd S l) x.cps.toList).length - (occL (tlW x.cps.toList (rd S l) ++ hdW x.cps.toList (rd S r)) x.cps.toList).length : Nat) : Int) := by rw [elm]; omega
        have e2 : (ah : Int) + ((sgT S l : Nat) : Int) = ((ah + (rd S l).length : Nat) : Int) := by omega
        rw [e1, e2]
        refine ⟨hgT S r, _, by omega, Sub.refl _, r, _, z, ah + (rd S l).length, c4, _, _, _, rfl, nd.b0, by omega, by omega, hz, by omega, by omega, hc4, H3.sub s4, o13.trans fun b o _ hb => s4 b o hb, rfl⟩
theorem w_lookw {k : Nat} {Q : VG} {E : XG} (hx1 : 1 ≤ sz x) (hx8 : sz x ≤ 8) (hp : plainB x = true) (hk : 2 ≤ k) (q : Q .non g) : Gam kl bsP defs k 91 [.str x] g Q E := by
  obtain ⟨k, rfl⟩ : ∃ j, k = j + 2 := ⟨k - 2, by omega⟩
  refine gam_of d91.h rfl ?_
  show b_look_at_word _ _ [some (.str x)] _
  unfold b_look_at_word
  have hs : sizeLine = 16777216 := rfl
  have lx : x.length = sz x := rfl
  repeat refine go ?_
  refine z_is_plain' d2.h (by show sz x ≤ _; omega) ?_
  rw [hp]
  repeat first | refine go ?_ | refine ifD (by omega) ?_ | refine ifN (by omega) ?_ | refine ifNn (by omega) ?_ | rw [decide_eq_true (show (1 : Int) ≤ (x.length : Int) by omega)] | rw [decide_eq_true (show (x.length : Int) ≤ 8 by omega)] | fail
  refine ⟨by omega, ?_⟩
  repeat refine go ?_
  rw [decide_eq_true (show (1 : Int) ≤ (x.length : Int) by omega)]
  repeat refine go ?_
  rw [decide_eq_true (show (x.length : Int) ≤ 8 by omega)]
  repeat refine go ?_
  exact ⟨_, Sub.refl _, q⟩
theorem w_finder {k : Nat} {Q : VG} {E : XG} (sa : g a = some (.shf S)) (hk : 1 ≤ k) {p : Addr} (hp : g p = none)
    (q : ∀ g' kn en, Sub g g' → g kn = none → g en = none → FdAt g' p a kn en S x → Q .non g') : Gam kl bsP defs k 93 [.ref p, .ref a, .str x] (gu g p (.ins 3 [])) Q E := by
  obtain ⟨k, rfl⟩ : ∃ j, k = j + 1 := ⟨k - 1, by omega⟩
  refine gam_of d93.h rfl ?_
  show b_Finder___init__ _ _ [some (.ref p), some (.ref a), some (.str x)] _
  unfold b_Finder___init__
  repeat refine go ?_
  refine ⟨⟨by decide, by simp⟩, ?_⟩
  repeat refine go ?_
  refine ⟨⟨by decide, by simp⟩, ?_⟩
  refine go ?_
  refine go ?_
  intro kn hkn
  have npk : p ≠ kn := fun z => by rw [← z, gus] at hkn; cases hkn
  have fkn : g kn = none := by
    rw [gun npk.symm, gun npk.symm, gun npk.symm] at hkn; exact hkn
  have gkn := hkn
  generalize hg1 : (gu (gu (gu g p (O.ins 3 [])) p (O.ins 3 [(11, V.ref a)])) p (O.ins 3 [(11, V.ref a), (14, V.str x)])) = g1 at *
  have gp1 : g1 p = some (.ins 3 [(11, .ref a), (14, .str x)]) := by rw [← hg1, gus]
  have sg1 : Sub g g1 := fun b o hb => by
    have hbp : b ≠ p := fun z => by rw [z, hp] at hb; cases hb
    rw [← hg1, gun hbp, gun hbp, gun hbp]; exact hb
  refine ⟨gus, [(.inl 0, .int 0)], rfl, by simp, ?_⟩
  show eV 0 _ [some (.ref p), some (.ref a), some (.str x)] (gu (gu g1 kn (.dK [])) kn (.dK [(.inl 0, .int 0)])) _
  have s2 : Sub g1 (gu (gu g1 kn (.dK [])) kn (.dK [(.inl 0, .int 0)])) := fun b o hb => by
    have hbk : b ≠ kn := fun z => by rw [z, gkn] at hb; cases hb
    rw [gun hbk, gun hbk]; exact hb
  have gk2 : (gu (gu g1 kn (.dK [])) kn (.dK [((.inl 0 : Key), V.int 0)])) kn = some (.dK [((.inl 0 : Key), V.int 0)]) := gus
  generalize hg2 : (gu (gu g1 kn (.dK [])) kn (.dK [((.inl 0 : Key), V.int 0)])) = g2 at *
  haveI i1 : At g2 p _ := ⟨s2 _ _ gp1⟩
  repeat refine go ?_
  refine ⟨⟨by decide, by simp⟩, ?_⟩
  repeat refine go ?_
  refine .inl fun en hen => ?_
  have npe : p ≠ en := fun z => by rw [← z, gus] at hen; cases hen
  rw [gun npe.symm] at hen
  have nke : kn ≠ en := fun z => by rw [← z, gk2] at hen; cases hen
  have nkp : kn ≠ p := npk.symm
  have fen : g en = none := by
    cases hge : g en with
    | none => rfl
    | some o => have := s2 _ _ (sg1 _ _ hge); rw [hen] at this; cases this
  haveI i3 : At (gu (gu g2 p (.ins 3 [(11, .ref a), (14, .str x), (15, .ref kn)])) en (.dK [])) p (.ins 3 [(11, .ref a), (14, .str x), (15, .ref kn)]) := ⟨by rw [gun npe, gus]⟩
  repeat refine go ?_
  refine ⟨⟨by decide, by simp⟩, ?_⟩
  have hap : a ≠ p := fun z => by rw [z, hp] at sa; cases sa
  have hae : a ≠ en := fun z => by rw [z, fen] at sa; cases sa
  have hv0 : valV [((.inl 0 : Key), V.int 0)] (.inl 0) = some (.int 0) := rfl
  refine ⟨_, Sub.refl _, q _ kn en ?_ fkn fen ⟨gus, ?_, ⟨[(.inl 0, .int 0)], ?_, ?_, hv0, fun key v hkv => ?_⟩, ⟨[], ?_, ?_, fun key v hkv => ?_⟩, nke⟩⟩
  · intro b o hb
    have hbp : b ≠ p := fun z => by rw [z, hp] at hb; cases hb
    have hbe : b ≠ en := fun z => by rw [z, fen] at hb; cases hb
    rw [gun hbp, gun hbe, gun hbp]
    exact s2 _ _ (sg1 _ _ hb)
  · rw [gun hap, gun hae, gun hap]; exact s2 _ _ (sg1 _ _ sa)
  · rw [gun nkp, gun nke, gun nkp]; exact gk2
  · have e0 : valV ([] : List (Key × V)) (Sum.inl ((0 : Nat) : Int) : Key) = none := rfl
    have h1 := miss_put [] 0 (.int 0) e0 (S.length + 1) (by omega)
    have h2 := miss_le [] (S.length + 1)
    have e1 : putK ([] : List (Key × V)) (.inl ((0 : Nat) : Int)) (.int 0) = [(.inl 0, .int 0)] := rfl
    rw [e1] at h1
    show 1 + _ ≤ _
    omega
  · have hk0 : key = .inl 0 := by
      by_cases e : key = .inl 0
      · exact e
      · have : valV [((.inl 0 : Key), V.int 0)] key = none := by
          unfold valV
          simp [Ne.symm e]
        rw [this] at hkv; cases hkv
    subst hk0
    rw [hv0] at hkv
    cases hkv
    refine ⟨0, by omega, rfl, ?_⟩
    rw [rd_zero]
    rfl
  · rw [gun npe.symm, gus]
  · have := miss_le [] (S.length + 1)
    show 0 + _ ≤ _
    omega
  · cases hkv
theorem w_count (wf : WF S) [sa : At g a (.shf S)] (hx1 : 1 ≤ sz x) (hx8 : sz x ≤ 8) (hp : plainB x = true) (room : S.length + 4 < sizeLine) {k t : Nat} {Q : VG} {E : XG} (h1 : t ≤ S.length) (hk : 100 ≤ k) (q : ∀ g', Sub g g' → Q (nV (occL (rd S t) x.cps.toList).length) g') : Gam kl bsP defs k 98 [.ref a, .int t, .str x] g Q E := by
  obtain ⟨k, rfl⟩ : ∃ j, k = j + 1 := ⟨k - 1, by omega⟩
  refine gam_of d98.h rfl ?_
  show b_count_of _ _ [some (.ref a), some (.int t), some (.str x)] _
  unfold b_count_of
  have hh := wf.high h1
  repeat refine go ?_
  refine ⟨h1, ?_⟩
  repeat refine go ?_
  refine w_lookw (defs := defs) hx1 hx8 hp (by omega) ?_
  repeat refine go ?_
  intro p hpn
  refine w_finder (defs := defs) (k := k) (x := x) sa.h (by omega) hpn fun g' kn en s1 n1 n2 H => ?_
  refine ⟨rfl, ?_⟩
  repeat refine go ?_
  haveI i1 : At g' p _ := ⟨H.f⟩
  repeat refine go ?_
  refine w_often wf hx1 hx8 room H (n := hgT S t + 1) h1 (by omega) (by omega) fun g2 H2 o2 => ?_
  refine ⟨_, Sub.refl _, q _ (o2.sub s1 ?_)⟩
  intro b hb
  rcases List.mem_cons.mp hb with rfl | hb
  · exact n1
  · rw [List.mem_singleton] at hb; rw [hb]; exact n2
theorem w_placeof (wf : WF S) [sa : At g a (.shf S)] (hx1 : 1 ≤ sz x) (hx8 : sz x ≤ 8) (hp : plainB x = true) (room : S.length + 4 < sizeLine) {k t j o : Nat} {Q : VG} {E : XG} (h0 : 0 < t) (h1 : t ≤ S.length) (hj : (occL (rd S t) x.cps.toList)[j]? = some o) (hk : 100 ≤ k) (q : ∀ g', Sub g g' → Q (nV o) g') : Gam kl bsP defs k 99 [.ref a, .int t, .str x, .int j] g Q E := by
  obtain ⟨k, rfl⟩ : ∃ j, k = j + 1 := ⟨k - 1, by omega⟩
  refine gam_of d99.h rfl ?_
  show b_place_of _ _ [some (.ref a), some (.int t), some (.str x), some (.int j), none] _
  unfold b_place_of
  have hh := wf.high h1
  repeat refine go ?_
  refine ⟨h1, ?_⟩
  repeat refine go ?_
  refine w_lookw (defs := defs) hx1 hx8 hp (by omega) ?_
  repeat refine go ?_
  intro p hpn
  refine w_finder (defs := defs) (k := k) (x := x) sa.h (by omega) hpn fun g' kn en s1 n1 n2 H => ?_
  refine ⟨rfl, ?_⟩
  repeat refine go ?_
  haveI i1 : At g' p _ := ⟨H.f⟩
  have jl := (List.getElem?_eq_some_iff.mp hj).1
  repeat refine go ?_
  rw [decide_eq_true (show (0 : Int) ≤ (j : Int) by omega)]
  repeat refine go ?_
  refine w_often wf hx1 hx8 room H (n := hgT S t + 1) h1 (by omega) (by omega) fun g2 H2 o2 => ?_
  haveI i2 : At g2 p _ := ⟨H2.f⟩
  repeat refine go ?_
  rw [decide_eq_true (show (j : Int) < ((occL (rd S t) x.cps.toList).length : Int) by omega)]
  repeat refine go ?_
  refine w_place wf hx1 hx8 room H2 h0 h1 hj (by omega) fun g3 H3 o3 => ?_
  refine ⟨_, Sub.refl _, q _ ((o2.trans o3).sub s1 ?_)⟩
  intro b hb
  rcases List.mem_cons.mp hb with rfl | hb
  · exact n1
  · rw [List.mem_singleton] at hb; rw [hb]; exact n2
end
end SW
end

section
set_option Elab.async false
set_option linter.all false
set_option maxRecDepth 100000
set_option maxHeartbeats 4000000
/-! Spellings, in plain Lean. -/
namespace SW
open PySem L2
/-- what is left of a text: signs, and texts behind them, the next one first -/
abbrev Stt := List Nat × List Nat
def fl (S : Sh) (F : Stt) : List Nat := F.1 ++ (F.2.map (rd S)).flatten
inductive Opn (S : Sh) : Stt → Stt → Prop
  | fork {t a b : Nat} {ws : List Nat} (n : NdF S t a b) : Opn S ([], t :: ws) ([], a :: b :: ws)
  | leaf {t : Nat} {y : Str} {ws : List Nat} (n : NdL S t y) : Opn S ([], t :: ws) (y.cps.toList, ws)
inductive Opens (S : Sh) : Stt → Stt → Prop
  | refl {F : Stt} : Opens S F F
  | step {F G H : Stt} (h : Opn S F G) (t : Opens S G H) : Opens S F H
theorem Opens.trans {S : Sh} {F G H : Stt} (h : Opens S F G) (k : Opens S G H) : Opens S F H := by
  induction h with
  | refl => exact k
  | step h _ ih => exact .step h (ih k)
theorem Opens.snoc {S : Sh} {F G H : Stt} (h : Opens S F G) (k : Opn S G H) : Opens S F H := h.trans (.step k .refl)
structure Vd (S : Sh) (F : Stt) : Prop where
  r8 : F.1.length ≤ 8
  pl : plainB (strT F.1) = true
  ws : ∀ t ∈ F.2, 0 < t ∧ t ≤ S.length
def ms (S : Sh) (F : Stt) : Nat := F.1.length + (F.2.map fun t => 11 * lvT S t - 1).sum
theorem NdL.ne {S : Sh} {t : Nat} {y : Str} (n : NdL S t y) : y.cps.toList ≠ [] := fun z => by
  have h := n.ok.h1
  have : y.cps.toList.length = sz y := tl_len' y
  rw [z] at this
  have h2 : 1 ≤ sz y := h
  simp at this
  omega
theorem WF.lv1' {S : Sh} (wf : WF S) : ∀ t, 0 < t → t ≤ S.length → 1 ≤ lvT S t := by
  intro t
  induction t using Nat.strongRecOn with
  | ind t ih =>
    intro h0 h1
    rcases wf.nd h0 h1 with ⟨x, n⟩ | ⟨a, b, n⟩
    · rw [n.lv]; exact Nat.le_refl _
    · have := ih a n.a1 n.a0 (by have := n.a1; omega)
      rw [n.lv]; omega
theorem WF.sg1' {S : Sh} (wf : WF S) : ∀ t, 0 < t → t ≤ S.length → 1 ≤ sgT S t := by
  intro t
  induction t using Nat.strongRecOn with
  | ind t ih =>
    intro h0 h1
    rcases wf.nd h0 h1 with ⟨x, n⟩ | ⟨a, b, n⟩
    · rw [n.sg]; exact n.ok.h1
    · have := ih a n.a1 n.a0 (by have := n.a1; omega)
      rw [n.sg]; omega
theorem Opn.fl {S : Sh} {F G : Stt} (h : Opn S F G) : SW.fl S G = SW.fl S F := by
  cases h with
  | fork n => unfold SW.fl; simp [n.rd]
  | leaf n => unfold SW.fl; simp [n.rd]
theorem Opens.fl {S : Sh} {F G : Stt} (h : Opens S F G) : SW.fl S G = SW.fl S F := by
  induction h with
  | refl => rfl
  | step h _ ih => rw [ih, h.fl]
theorem Opn.vd {S : Sh} {F G : Stt} (h : Opn S F G) (v : Vd S F) : Vd S G := by
  cases h with
  | @fork t a b ws n =>
    have ht := v.ws t (by simp)
    have a1 := n.a1; have b1 := n.b1
    exact ⟨v.r8, v.pl, fun u hu => by
      rcases List.mem_cons.mp hu with rfl | hu
      · exact ⟨n.a0, by omega⟩
      rcases List.mem_cons.mp hu with rfl | hu
      · exact ⟨n.b0, by omega⟩
      exact v.ws u (List.mem_cons_of_mem _ hu)⟩
  | @leaf t y ws n =>
    refine ⟨?_, ?_, fun u hu => v.ws u (List.mem_cons_of_mem _ hu)⟩
    · have := n.ok.h8
      have h2 : y.cps.toList.length = sz y := tl_len' y
      have h3 : sz y ≤ 8 := this
      show y.cps.toList.length ≤ 8
      omega
    · show plainB (strT y.cps.toList) = true
      rw [strT_tl]; exact n.ok.pl
theorem Opens.vd {S : Sh} {F G : Stt} (h : Opens S F G) (v : Vd S F) : Vd S G := by
  induction h with
  | refl => exact v
  | step h _ ih => exact ih (h.vd v)
theorem Opn.ms {S : Sh} (wf : WF S) {F G : Stt} (h : Opn S F G) (v : Vd S F) : SW.ms S G < SW.ms S F := by
  have vg := h.vd v
  cases h with
  | @fork t a b ws n =>
    have ha := vg.ws a (by simp)
    have hb := vg.ws b (by simp)
    have la := wf.lv1' a ha.1 ha.2
    have lb := wf.lv1' b hb.1 hb.2
    unfold SW.ms
    simp only [List.map_cons, List.sum_cons, n.lv]
    omega
  | @leaf t y ws n =>
    have h8 := vg.r8
    unfold SW.ms
    simp only [List.map_cons, List.sum_cons, n.lv, List.length_nil] at *
    omega
theorem Vd.opn {S : Sh} (wf : WF S) {t : Nat} {ws : List Nat} (v : Vd S ([], t :: ws)) : ∃ G, Opn S ([], t :: ws) G := by
  have ht := v.ws t (by simp)
  rcases wf.nd ht.1 ht.2 with ⟨x, n⟩ | ⟨a, b, n⟩
  · exact ⟨_, .leaf n⟩
  · exact ⟨_, .fork n⟩
/-- a piece met by opening is the text itself, or has fewer signs -/
theorem Opens.met {S : Sh} {F G : Stt} (h : Opens S F G) : ∀ {t p : Nat} {ws ws' : List Nat}, Vd S F → F = ([], t :: ws) → G = ([], p :: ws') → WF S → (t = p ∧ ws = ws' ∨ sgT S p < sgT S t) := by
  induction h with
  | refl =>
    intro t p ws ws' _ e1 e2 _
    rw [e1] at e2
    injection e2 with _ e2
    injection e2 with e2 e3
    exact .inl ⟨e2, e3⟩
  | step h tl ih =>
    intro t p ws ws' v e1 e2 wf
    have vg := h.vd v
    cases h with
    | @fork t' a b ws1 n =>
      injection e1 with _ e1
      injection e1 with e1 e3
      subst e1 e3
      have hb := vg.ws b (by simp)
      have lb := wf.lv1' b hb.1 hb.2
      have l2 := wf.sg1' b hb.1 hb.2
      have := n.sg
      rcases ih vg rfl e2 wf with ⟨rfl, _⟩ | h
      · exact .inr (by omega)
      · exact .inr (by omega)
    | @leaf t' y ws1 n =>
      cases tl with
      | refl => injection e2 with e2 _; exact absurd e2 n.ne
      | step h2 _ =>
        exfalso
        generalize hy : y.cps.toList = z at h2
        have := n.ne
        cases h2 with
        | fork _ => exact this hy
        | leaf _ => exact this hy
theorem Opens.stuck {S : Sh} {c : Nat} {r ws : List Nat} {G : Stt} (h : Opens S (c :: r, ws) G) : G = (c :: r, ws) := by
  cases h with
  | refl => rfl
  | step h _ => cases h
theorem Opens.over {S : Sh} {F G : Stt} (h : Opens S F G) (e : G = ([], [])) : F = ([], []) := by
  induction h with
  | refl => exact e
  | step h _ ih =>
    have := ih e
    cases h with
    | fork _ => cases this
    | leaf n =>
      exfalso
      injection this with h1 _
      exact n.ne h1
theorem Opn.det {S : Sh} {F G H : Stt} (h : Opn S F G) (k : Opn S F H) : G = H := by
  cases h with
  | fork n =>
    cases k with
    | fork m => have := n.pc.symm.trans m.pc; cases this; rfl
    | leaf m => have := n.pc.symm.trans m.pc; cases this
  | leaf n =>
    cases k with
    | fork m => have := n.pc.symm.trans m.pc; cases this
    | leaf m => have := n.pc.symm.trans m.pc; cases this; rfl
/-- sign by sign -/
inductive SpS (S : Sh) : Stt → List Nat → Stt → Prop
  | nil {F : Stt} : SpS S F [] F
  | cons {F G : Stt} {c : Nat} {r ws x : List Nat} (h : Opens S F (c :: r, ws)) (t : SpS S (r, ws) x G) : SpS S F (c :: x) G
theorem SpS.app {S : Sh} {F G H : Stt} {x y : List Nat} (h : SpS S F x G) (k : SpS S G y H) : SpS S F (x ++ y) H := by
  induction h with
  | nil => exact k
  | cons h _ ih => exact .cons h (ih k)
theorem SpS.run {S : Sh} : ∀ (x r ws : List Nat), SpS S (x ++ r, ws) x (r, ws)
  | [], r, ws => .nil
  | c :: x, r, ws => .cons (r := x ++ r) .refl (SpS.run x r ws)
theorem SpS.of {S : Sh} {F : Stt} {x r ws : List Nat} (h : Opens S F (x ++ r, ws)) (hx : x ≠ []) : SpS S F x (r, ws) := by
  cases x with
  | nil => exact absurd rfl hx
  | cons c x => exact .cons (r := x ++ r) h (SpS.run x r ws)
theorem SpS.fl {S : Sh} {F G : Stt} {x : List Nat} (h : SpS S F x G) : SW.fl S F = x ++ SW.fl S G := by
  induction h with
  | nil => rfl
  | cons h _ ih =>
    rw [← h.fl]
    show _ :: SW.fl S (_, _) = _
    rw [ih]; rfl
theorem Vd.tail {S : Sh} {c : Nat} {r ws : List Nat} (v : Vd S (c :: r, ws)) : Vd S (r, ws) := by
  refine ⟨?_, ?_, v.ws⟩
  · have := v.r8; simp at this; show r.length ≤ 8; omega
  · have := v.pl
    unfold plainB at *
    rw [tl_strT] at *
    rw [List.all_cons, Bool.and_eq_true] at this
    exact this.2
theorem SpS.vd {S : Sh} {F G : Stt} {x : List Nat} (h : SpS S F x G) (v : Vd S F) : Vd S G := by
  induction h with
  | nil => exact v
  | cons h _ ih => exact ih (h.vd v).tail
/-- a spelling -/
inductive Sp (S : Sh) : Stt → List (Nat ⊕ List Nat) → Stt → Prop
  | nil {F : Stt} : Sp S F [] F
  | piece {F G : Stt} {p : Nat} {ws : List Nat} {is : List (Nat ⊕ List Nat)} (h : Opens S F ([], p :: ws)) (t : Sp S ([], ws) is G) : Sp S F (.inl p :: is) G
  | signs {F F1 G : Stt} {x : List Nat} {is : List (Nat ⊕ List Nat)} (h1 : x ≠ []) (h8 : x.length ≤ 8) (pl : plainB (strT x) = true) (h : SpS S F x F1) (t : Sp S F1 is G) : Sp S F (.inr x :: is) G
theorem Sp.app {S : Sh} {F G H : Stt} {x y : List (Nat ⊕ List Nat)} (h : Sp S F x G) (k : Sp S G y H) : Sp S F (x ++ y) H := by
  induction h with
  | nil => exact k
  | piece h _ ih => exact .piece h (ih k)
  | signs h1 h8 pl h _ ih => exact .signs h1 h8 pl h (ih k)
theorem Vd.pop {S : Sh} {p : Nat} {ws : List Nat} (v : Vd S ([], p :: ws)) : Vd S ([], ws) := ⟨v.r8, v.pl, fun t ht => v.ws t (List.mem_cons_of_mem _ ht)⟩
theorem Sp.vd {S : Sh} {F G : Stt} {x : List (Nat ⊕ List Nat)} (h : Sp S F x G) (v : Vd S F) : Vd S G := by
  induction h with
  | nil => exact v
  | piece h _ ih => exact ih (h.vd v).pop
  | signs _ _ _ h _ ih => exact ih (h.vd v)
theorem Sp.split {S : Sh} {H : Stt} {y : List (Nat ⊕ List Nat)} : ∀ {x : List (Nat ⊕ List Nat)} {F : Stt}, Sp S F (x ++ y) H → ∃ G, Sp S F x G ∧ Sp S G y H
  | [], F, h => ⟨F, .nil, h⟩
  | _ :: x, F, h => by
    cases h with
    | piece h t =>
      obtain ⟨G, h1, h2⟩ := Sp.split t
      exact ⟨G, .piece h h1, h2⟩
    | signs h1 h8 pl h t =>
      obtain ⟨G, k1, k2⟩ := Sp.split t
      exact ⟨G, .signs h1 h8 pl h k1, k2⟩
def itR (S : Sh) : Nat ⊕ List Nat → List Nat
  | .inl p => rd S p
  | .inr x => x
def itV : Nat ⊕ List Nat → V
  | .inl p => nV p
  | .inr x => .str (strT x)
def itsR (S : Sh) (is : List (Nat ⊕ List Nat)) : List Nat := (is.map (itR S)).flatten
theorem Sp.fl {S : Sh} {F G : Stt} {x : List (Nat ⊕ List Nat)} (h : Sp S F x G) : SW.fl S F = itsR S x ++ SW.fl S G := by
  induction h with
  | nil => rfl
  | piece h _ ih =>
    rw [← h.fl]
    unfold itsR SW.fl at *
    simp only [List.nil_append, List.map_cons, List.flatten_cons, itR] at *
    rw [ih, List.append_assoc]
  | signs _ _ _ h _ ih =>
    rw [h.fl, ih]
    unfold itsR
    simp [itR]
end SW
end

section
set_option Elab.async false
set_option linter.all false
set_option maxRecDepth 100000
set_option maxHeartbeats 4000000
/-! What is still to be spelled. -/
namespace SW
open PySem L2
set_option synthInstance.maxHeartbeats 200000
set_option synthInstance.maxSize 100000
structure FrAt (g : G) (h l a : Addr) (S : Sh) (F : Stt) : Prop where
  h : g h = some (.ins 1 [(8, .ref a), (9, .str (strT F.1)), (10, .ref l)])
  l : g l = some (.lst (F.2.reverse.map nV))
  s : g a = some (.shf S)
theorem FrAt.sub {g g' : G} {h l a : Addr} {S : Sh} {F : Stt} (s : Sub g g') (k : FrAt g h l a S F) : FrAt g' h l a S F := ⟨s _ _ k.h, s _ _ k.l, s _ _ k.s⟩
theorem strT_e {x : List Nat} : strT x = Str.ofString "" ↔ x = [] := by rw [← strT_nil]; exact strT_eq
theorem eqL_rev {ws : List Nat} : eqL (ws.reverse.map nV) [] = decide (ws = []) := by
  rcases List.eq_nil_or_concat ws.reverse with e | ⟨w', x, e⟩
  · rw [e]
    have : ws = [] := by simpa using e
    rw [this]; exact eqL_nn
  · have hw : ws ≠ [] := fun z => by rw [z] at e; simp at e
    rw [decide_eq_false hw, e, List.concat_eq_append]
    cases w' with
    | nil => exact eqL_nil
    | cons y r => exact eqL_nil
section
variable {kl : Addr → List V → Prop} {defs : Nat → Option FDef} {g : G} {h l a : Addr} {S : Sh} {F : Stt} [jd : JoD defs] [d61 : DefAt defs 61 d_Front_is_over] [d62 : DefAt defs 62 d_Front_next_text] [d63 : DefAt defs 63 d_Front_opened]
theorem w_fover {k : Nat} {Q : VG} {E : XG} (H : FrAt g h l a S F) (hk : 1 ≤ k) (q : ∀ g', Sub g g' → Q (.bl (decide (F = ([], [])))) g') : Gam kl bsP defs k 61 [.ref h] g Q E := by
  obtain ⟨k, rfl⟩ : ∃ j, k = j + 1 := ⟨k - 1, by omega⟩
  refine gam_of d61.h rfl ?_
  show b_Front_is_over _ _ [some (.ref h)] _
  unfold b_Front_is_over
  haveI i1 : At g h _ := ⟨H.h⟩
  haveI i2 : At g l _ := ⟨H.l⟩
  repeat refine go ?_
  obtain ⟨r, ws⟩ := F
  by_cases hr : r = []
  · subst hr
    refine ifD strT_nil ?_
    repeat refine go ?_
    refine ⟨by simp, fun p fp => ?_⟩
    repeat refine go ?_
    refine eq_ll' (At.h (a := l)) gus (ints_ok _) rfl ?_
    rw [eqL_rev]
    refine ⟨_, Sub.refl _, ?_⟩
    have e : decide (ws = []) = decide ((([] : List Nat), ws) = (([] : List Nat), ([] : List Nat))) := by
      cases ws <;> simp
    rw [e]
    exact q _ (Sub.new fp.h)
  · have hr2 : ¬ strT r = Str.ofString "" := fun z => hr (strT_e.mp z)
    rw [decide_eq_false (show ¬ strT ((r, ws) : Stt).1 = Str.ofString "" from hr2)]
    rw [if_neg (by decide)]
    refine ⟨_, Sub.refl _, ?_⟩
    have e : false = decide ((r, ws) = (([] : List Nat), ([] : List Nat))) := by
      symm
      rw [decide_eq_false_iff_not]
      intro z
      injection z with z _
      exact hr z
    rw [e]
    exact q _ (Sub.refl _)
theorem w_fnext {k : Nat} {Q : VG} {E : XG} (H : FrAt g h l a S F) (hk : 1 ≤ k) (q : ∀ g', Sub g g' → Q (nV (if F.1 = [] then F.2.headD 0 else 0)) g') : Gam kl bsP defs k 62 [.ref h] g Q E := by
  obtain ⟨k, rfl⟩ : ∃ j, k = j + 1 := ⟨k - 1, by omega⟩
  refine gam_of d62.h rfl ?_
  show b_Front_next_text _ _ [some (.ref h)] _
  unfold b_Front_next_text
  haveI i1 : At g h _ := ⟨H.h⟩
  haveI i2 : At g l _ := ⟨H.l⟩
  repeat refine go ?_
  obtain ⟨r, ws⟩ := F
  by_cases hr : r = []
  · subst hr
    refine ifNn (by exact strT_nil) ?_
    repeat refine go ?_
    refine ⟨by simp, fun p fp => ?_⟩
    have np : h ≠ p := fun z => by have := fp.h; rw [← z, H.h] at this; cases this
    have nl : l ≠ p := fun z => by have := fp.h; rw [← z, H.l] at this; cases this
    haveI i3 : At (gu g p (.lst [])) h _ := ⟨(gun np).trans H.h⟩
    haveI i4 : At (gu g p (.lst [])) l _ := ⟨(gun nl).trans H.l⟩
    repeat refine go ?_
    refine eq_ll' (At.h (a := l)) gus (ints_ok _) rfl ?_
    rw [eqL_rev]
    cases ws with
    | nil =>
      repeat refine go ?_
      exact ⟨_, Sub.refl _, q _ (Sub.new fp.h)⟩
    | cons t ws =>
      rw [decide_eq_false (show ¬ t :: ws = [] by simp)]
      repeat refine go ?_
      refine ⟨nV t, ?_, ?_⟩
      · show atI (((t :: ws).reverse).map nV) (-1) = _
        rw [List.reverse_cons, List.map_append]; exact atI_last _ _
      · exact ⟨_, Sub.refl _, q _ (Sub.new fp.h)⟩
  · have hr2 : ¬ strT r = Str.ofString "" := fun z => hr (strT_e.mp z)
    refine ifN hr2 ?_
    repeat refine go ?_
    have q1 := q g (Sub.refl _)
    rw [if_neg hr] at q1
    exact ⟨_, Sub.refl _, q1⟩
theorem w_fopen {k : Nat} {Q : VG} {E : XG} {G' : Stt} (H : FrAt g h l a S F) (o : Opn S F G') (v : Vd S F) (hm : F.2.length + 2 < sizeLine) (hk : 3 ≤ k) (q : ∀ g', FrAt g' h l a S G' → OffL [h, l] g g' → Q .non g') : Gam kl bsP defs k 63 [.ref h] g Q E := by
  obtain ⟨k, rfl⟩ : ∃ j, k = j + 1 := ⟨k - 1, by omega⟩
  refine gam_of d63.h rfl ?_
  show b_Front_opened _ _ [some (.ref h), none, none, none] _
  unfold b_Front_opened
  haveI i1 : At g h _ := ⟨H.h⟩
  haveI i2 : At g l _ := ⟨H.l⟩
  repeat refine go ?_
  have nhl : h ≠ l := fun z => by have := H.h; rw [z, H.l] at this; cases this
  have nha : h ≠ a := fun z => by have := H.h; rw [z, H.s] at this; cases this
  have nla : l ≠ a := fun z => by have := H.l; rw [z, H.s] at this; cases this
  have off1 : ∀ xs, OffL [h, l] g (gu g l (.lst xs)) := fun xs b o hb hbo => by
    rw [gun (fun z => hb (by rw [z]; simp))]; exact hbo
  cases o with
  | @leaf t y ws n =>
    refine ⟨l, ((t :: ws).reverse).map nV, nV t, rfl, H.l, by simp, ?_⟩
    have ed : (((t :: ws).reverse).map nV).dropLast = ws.reverse.map nV := by simp
    rw [ed]
    haveI j1 : At (gu g l (.lst (ws.reverse.map nV))) h _ := ⟨(gun nhl).trans H.h⟩
    haveI j2 : At (gu g l (.lst (ws.reverse.map nV))) a _ := ⟨(gun nla.symm).trans H.s⟩
    haveI : PcL S t y := ⟨n.pc⟩
    repeat refine go ?_
    have ht := v.ws t (by simp)
    refine ⟨⟨ht.2, by omega⟩, ?_⟩
    rw [htT_pos ht.1, n.ht]
    repeat refine go ?_
    refine ifD rfl ?_
    repeat refine go ?_
    refine ⟨by omega, ?_⟩
    repeat refine go ?_
    refine ⟨⟨by decide, by simp⟩, ?_⟩
    repeat refine go ?_
    refine ⟨_, Sub.refl _, q _ ⟨?_, ?_, ?_⟩ fun b o hb hbo => ?_⟩
    · rw [gus, strT_tl]
    · rw [gun nhl.symm, gus]
    · rw [gun nha.symm, gun nla.symm]; exact H.s
    · rw [gun (fun z => hb (by rw [z]; simp))]; exact off1 _ b o hb hbo
  | @fork t u v' ws n =>
    refine ⟨l, ((t :: ws).reverse).map nV, nV t, rfl, H.l, by simp, ?_⟩
    have ed : (((t :: ws).reverse).map nV).dropLast = ws.reverse.map nV := by simp
    rw [ed]
    haveI j1 : At (gu g l (.lst (ws.reverse.map nV))) h _ := ⟨(gun nhl).trans H.h⟩
    haveI j2 : At (gu g l (.lst (ws.reverse.map nV))) a _ := ⟨(gun nla.symm).trans H.s⟩
    haveI j3 : At (gu g l (.lst (ws.reverse.map nV))) l (.lst (ws.reverse.map nV)) := ⟨gus⟩
    haveI : PcF S t u v' := ⟨n.pc⟩
    have ht := v.ws t (by simp)
    repeat refine go ?_
    refine ⟨⟨ht.2, by omega⟩, ?_⟩
    rw [htT_pos ht.1, n.ht]
    repeat refine go ?_
    refine ifDn (by omega) ?_
    repeat refine go ?_
    refine ⟨by omega, fun p fp => ?_⟩
    have fph := fp.h
    have s1 := Sub.new (o := .tup [.int u, .int v']) fph
    have nhp : h ≠ p := fun z => by rw [← z, j1.h] at fph; cases fph
    have nlp : l ≠ p := fun z => by rw [← z, j3.h] at fph; cases fph
    have nap : a ≠ p := fun z => by rw [← z, j2.h] at fph; cases fph
    haveI n1 : NeA h l := ⟨nhl⟩
    haveI n2 : NeA l h := ⟨nhl.symm⟩
    haveI n3 : NeA l p := ⟨nlp⟩
    haveI n4 : NeA h p := ⟨nhp⟩
    repeat refine go ?_
    refine ⟨rfl, ?_⟩
    have hm2 : ws.length + 3 < sizeLine := by simpa [Nat.add_assoc] using hm
    repeat refine go ?_
    refine ⟨by simp; omega, ?_⟩
    repeat refine go ?_
    refine ⟨by simp; omega, ?_⟩
    repeat refine go ?_
    refine ⟨_, Sub.refl _, q _ ⟨?_, ?_, ?_⟩ fun b o hb hbo => ?_⟩
    · rw [gun nhl, gun nhl, gun nhp, gun nhl]; exact H.h
    · rw [gus]; simp
    · rw [gun nla.symm, gun nla.symm, gun nap, gun nla.symm]; exact H.s
    · have hbl : b ≠ l := fun z => hb (by rw [z]; simp)
      rw [gun hbl, gun hbl]
      exact s1 _ _ (off1 _ b o hb hbo)
end
end SW
end

section
set_option Elab.async false
set_option linter.all false
set_option maxRecDepth 100000
set_option maxHeartbeats 4000000
/-! Spelling: by piece, by signs. -/
namespace SW
open PySem L2
set_option synthInstance.maxHeartbeats 200000
set_option synthInstance.maxSize 100000
theorem Vd.len {S : Sh} (wf : WF S) : ∀ {ws r : List Nat}, Vd S (r, ws) → ws.length ≤ ms S (r, ws)
  | [], _, _ => Nat.zero_le _
  | t :: ws, r, v => by
    have ht := v.ws t (by simp)
    have := Vd.len wf (ws := ws) (r := r) ⟨v.r8, v.pl, fun u hu => v.ws u (List.mem_cons_of_mem _ hu)⟩
    have h1 := wf.lv1' t ht.1 ht.2
    unfold ms at *
    simp only [List.map_cons, List.sum_cons, List.length_cons] at *
    omega
theorem Opens.ms {S : Sh} (wf : WF S) {F G : Stt} (h : Opens S F G) (v : Vd S F) : SW.ms S G ≤ SW.ms S F := by
  induction h with
  | refl => exact Nat.le_refl _
  | step h _ ih => have := ih (h.vd v); have := h.ms wf v; omega
section
variable {kl : Addr → List V → Prop} {defs : Nat → Option FDef} {g : G} {h l a : Addr} {S : Sh} {F : Stt} [jd : JoD defs] [d1 : DefAt defs 1 d_is_whole] [d61 : DefAt defs 61 d_Front_is_over] [d62 : DefAt defs 62 d_Front_next_text] [d63 : DefAt defs 63 d_Front_opened] [d64 : DefAt defs 64 d_Front_next_signs] [d65 : DefAt defs 65 d_Front_go_on] [d66 : DefAt defs 66 d_Front_by_piece] [d67 : DefAt defs 67 d_Front_by_signs]
theorem w_fsig (wf : WF S) {k : Nat} {Q : VG} {E : XG} {c : Nat} {r ws : List Nat} (H : FrAt g h l a S F) (o : Opens S F (c :: r, ws)) (v : Vd S F) (hm : ms S F < 1000000) (hk : 4 ≤ k) (q : ∀ g', FrAt g' h l a S (c :: r, ws) → OffL [h, l] g g' → Q (.str (strT (c :: r))) g') : Gam kl bsP defs k 64 [.ref h] g Q E := by
  obtain ⟨k, rfl⟩ : ∃ j, k = j + 1 := ⟨k - 1, by omega⟩
  refine gam_of d64.h rfl ?_
  show b_Front_next_signs _ _ [some (.ref h)] _
  unfold b_Front_next_signs
  have hs : sizeLine = 16777216 := rfl
  refine go ?_
  refine ⟨fun m s g' => ∃ F1, m = ms S F1 ∧ Opens S F1 (c :: r, ws) ∧ Vd S F1 ∧ ms S F1 < 1000000 ∧ FrAt g' h l a S F1 ∧ OffL [h, l] g g' ∧ s = [some (.ref h)], ⟨_, F, rfl, o, v, hm, H, OffL.refl, rfl⟩, ?_⟩
  rintro m s g' ⟨⟨r1, ws1⟩, rfl, o1, v1, m1, H1, f1, rfl⟩
  haveI i1 : At g' h _ := ⟨H1.h⟩
  haveI i2 : At g' l _ := ⟨H1.l⟩
  repeat refine go ?_
  cases r1 with
  | cons c1 r1 =>
    have e := o1.stuck
    injection e with e1 e2
    injection e1 with e0 e1
    subst e0 e1 e2
    refine ifDn (fun z => by have := strT_e.mp z; cases this) ?_
    repeat refine go ?_
    exact ⟨_, Sub.refl _, q _ H1 f1⟩
  | nil =>
    refine ifD (by exact strT_nil) ?_
    repeat refine go ?_
    refine ⟨by simp, fun p fp => ?_⟩
    have np : h ≠ p := fun z => by have := fp.h; rw [← z, H1.h] at this; cases this
    have nl : l ≠ p := fun z => by have := fp.h; rw [← z, H1.l] at this; cases this
    have s3 : Sub g' (gu g' p (.lst [])) := Sub.new fp.h
    haveI i3 : At (gu g' p (.lst [])) h _ := ⟨(gun np).trans H1.h⟩
    haveI i4 : At (gu g' p (.lst [])) l _ := ⟨(gun nl).trans H1.l⟩
    repeat refine go ?_
    refine ne_ll (At.h (a := l)) gus (ints_ok _) rfl ?_
    rw [eqL_rev]
    cases o1 with
    | step h1 tl =>
      cases ws1 with
      | nil => cases h1
      | cons t ws1 =>
        rw [decide_eq_false (show ¬ t :: ws1 = [] by simp)]
        repeat refine go ?_
        have hl := v1.len wf
        refine w_fopen (H1.sub s3) h1 v1 (by show (t :: ws1).length + 2 < _; omega) (by omega) fun g2 H2 o2 => ?_
        exact ⟨_, _, h1.ms wf v1, Sub.refl _, _, rfl, tl, h1.vd v1, by have := h1.ms wf v1; omega, H2, (f1.trans fun b o _ hb => s3 b o hb).trans o2, rfl⟩
theorem w_fgo {k m : Nat} {Q : VG} {E : XG} (H : FrAt g h l a S F) (hl : F.1.length ≤ 8) (hk : 1 ≤ k) (q : ∀ g', FrAt g' h l a S (F.1.drop m, F.2) → OffL [h, l] g g' → Q .non g') : Gam kl bsP defs k 65 [.ref h, .int m] g Q E := by
  obtain ⟨k, rfl⟩ : ∃ j, k = j + 1 := ⟨k - 1, by omega⟩
  refine gam_of d65.h rfl ?_
  show b_Front_go_on _ _ [some (.ref h), some (.int m)] _
  unfold b_Front_go_on
  have hs : sizeLine = 16777216 := rfl
  haveI i1 : At g h _ := ⟨H.h⟩
  have nhl : h ≠ l := fun z => by have := H.h; rw [z, H.l] at this; cases this
  have nha : h ≠ a := fun z => by have := H.h; rw [z, H.s] at this; cases this
  repeat refine go ?_
  refine ⟨by rw [strT_len]; omega, ?_⟩
  rw [cutS_from, tl_strT]
  repeat refine go ?_
  refine ⟨⟨by decide, by simp⟩, ?_⟩
  repeat refine go ?_
  refine ⟨_, Sub.refl _, q _ ⟨?_, ?_, ?_⟩ fun b o hb hbo => ?_⟩
  · rw [gus]; rfl
  · rw [gun nhl.symm]; exact H.l
  · rw [gun nha.symm]; exact H.s
  · rw [gun (fun z => hb (by rw [z]; simp))]; exact hbo
theorem w_fnextc {k t : Nat} {ws : List Nat} {Q : VG} {E : XG} (H : FrAt g h l a S ([], t :: ws)) (hk : 1 ≤ k) (q : ∀ g', Sub g g' → Q (nV t) g') : Gam kl bsP defs k 62 [.ref h] g Q E :=
  w_fnext H hk fun g' s => q g' s
theorem w_bypiece (wf : WF S) {k p : Nat} {Q : VG} {E : XG} {ws : List Nat} (H : FrAt g h l a S F) (o : Opens S F ([], p :: ws)) (v : Vd S F) (hm : ms S F < 1000000) (hk : 5 ≤ k) (q : ∀ g', FrAt g' h l a S ([], ws) → OffL [h, l] g g' → Q (.bl true) g') : Gam kl bsP defs k 66 [.ref h, .int p] g Q E := by
  obtain ⟨k, rfl⟩ : ∃ j, k = j + 1 := ⟨k - 1, by omega⟩
  refine gam_of d66.h rfl ?_
  show b_Front_by_piece _ _ [some (.ref h), some (.int p), none] _
  unfold b_Front_by_piece
  have hs : sizeLine = 16777216 := rfl
  have hp := (o.vd v).ws p (by simp)
  haveI i1 : At g h _ := ⟨H.h⟩
  haveI i2 : At g a _ := ⟨H.s⟩
  repeat refine go ?_
  rw [decide_eq_true (show (0 : Int) < (p : Int) by omega)]
  repeat refine go ?_
  rw [decide_eq_true (show (p : Int) ≤ (S.length : Int) by omega)]
  repeat refine go ?_
  refine ⟨hp.2, ?_⟩
  repeat refine go ?_
  refine ⟨fun m s g' => ∃ F1, m = ms S F1 ∧ Opens S F1 ([], p :: ws) ∧ Vd S F1 ∧ ms S F1 < 1000000 ∧ FrAt g' h l a S F1 ∧ OffL [h, l] g g' ∧ s = [some (.ref h), some (.int p), some (.int (sgT S p))], ⟨_, F, rfl, o, v, hm, H, OffL.refl, rfl⟩, ?_⟩
  rintro m s g' ⟨⟨r1, ws1⟩, rfl, o1, v1, m1, H1, f1, rfl⟩
  cases r1 with
  | cons c1 r1 => have e := o1.stuck; cases e
  | nil =>
  cases ws1 with
  | nil => cases o1 with | step h1 _ => cases h1
  | cons t ws1 =>
    have ht := v1.ws t (by simp)
    haveI i3 : At g' h _ := ⟨H1.h⟩
    repeat refine go ?_
    refine w_fnextc H1 (by omega) fun g2 s2 => ?_
    have H2 := H1.sub s2
    haveI i4 : At g2 h _ := ⟨H2.h⟩
    repeat refine go ?_
    refine ifN (by omega) ?_
    repeat refine go ?_
    refine w_fnextc H2 (by omega) fun g3 s3 => ?_
    have H3 := H2.sub s3
    haveI i5 : At g3 h _ := ⟨H3.h⟩
    haveI i6 : At g3 l _ := ⟨H3.l⟩
    have f3 : OffL [h, l] g g3 := f1.trans fun b o _ hb => s3 _ _ (s2 b o hb)
    repeat refine go ?_
    by_cases e : t = p
    · subst e
      rcases o1.met v1 rfl rfl wf with ⟨_, rfl⟩ | hlt
      · refine ifNn rfl ?_
        repeat refine go ?_
        refine w_fnextc H3 (by omega) fun g4 s4 => ?_
        have H4 := H3.sub s4
        haveI i7 : At g4 h _ := ⟨H4.h⟩
        haveI i8 : At g4 l _ := ⟨H4.l⟩
        repeat refine go ?_
        refine ifDn (by omega) ?_
        repeat refine go ?_
        refine ⟨l, ((t :: ws1).reverse).map nV, nV t, rfl, H4.l, by simp, ?_⟩
        have ed : (((t :: ws1).reverse).map nV).dropLast = ws1.reverse.map nV := by simp
        rw [ed]
        repeat refine go ?_
        have nhl : h ≠ l := fun z => by have := H4.h; rw [z, H4.l] at this; cases this
        have nla : l ≠ a := fun z => by have := H4.l; rw [z, H4.s] at this; cases this
        refine ⟨_, Sub.refl _, q _ ⟨?_, ?_, ?_⟩ fun b o hb hbo => ?_⟩
        · rw [gun nhl]; exact H4.h
        · rw [gus]
        · rw [gun nla.symm]; exact H4.s
        · rw [gun (fun z => hb (by rw [z]; simp))]; exact s4 _ _ (f3 b o hb hbo)
      · omega
    · refine ifN (by omega) ?_
      have hlt : sgT S p < sgT S t := by
        rcases o1.met v1 rfl rfl wf with ⟨e2, _⟩ | hlt
        · exact absurd e2 e
        · exact hlt
      cases o1 with
      | refl => exact absurd rfl e
      | step h1 tl =>
        haveI i7 : At g3 a _ := ⟨H3.s⟩
        repeat refine go ?_
        refine w_fnextc H3 (by omega) fun g4 s4 => ?_
        have H4 := H3.sub s4
        haveI i8 : At g4 h _ := ⟨H4.h⟩
        haveI i9 : At g4 a _ := ⟨H4.s⟩
        repeat refine go ?_
        refine ⟨ht.2, ?_⟩
        repeat refine go ?_
        refine ifDn (by omega) ?_
        repeat refine go ?_
        have hl := v1.len wf
        refine w_fopen H4 h1 v1 (by show (t :: ws1).length + 2 < _; omega) (by omega) fun g5 H5 o5 => ?_
        exact ⟨_, _, h1.ms wf v1, Sub.refl _, _, rfl, tl, h1.vd v1, by have := h1.ms wf v1; omega, H5, (f3.trans fun b o _ hb => s4 b o hb).trans o5, rfl⟩
end
end SW
end

section
set_option Elab.async false
set_option linter.all false
set_option maxRecDepth 100000
set_option maxHeartbeats 4000000
/-! Spelling on. -/
namespace SW
open PySem L2
set_option synthInstance.maxHeartbeats 200000
set_option synthInstance.maxSize 100000
section
variable {kl : Addr → List V → Prop} {g : G} {Q : VG}
instance {z : Str} : Step (biV kl .isint [.str z] g Q) (Q (.bl false) g) := ⟨id⟩
instance {z : Int} : Step (biV kl .isint [.int z] g Q) (Q (.bl true) g) := ⟨id⟩
instance {z : Int} : Step (biV kl .isbool [.int z] g Q) (Q (.bl false) g) := ⟨id⟩
end
theorem SpS.ms {S : Sh} (wf : WF S) {F G : Stt} {x : List Nat} (h : SpS S F x G) (v : Vd S F) : SW.ms S G ≤ SW.ms S F := by
  induction h with
  | nil => exact Nat.le_refl _
  | cons h _ ih =>
    have h1 := ih (h.vd v).tail
    have h2 := h.ms wf v
    unfold SW.ms at *
    simp only [List.length_cons] at *
    omega
section
variable {kl : Addr → List V → Prop} {defs : Nat → Option FDef} {g : G} {h l a : Addr} {S : Sh} {F : Stt} [jd : JoD defs] [d1 : DefAt defs 1 d_is_whole] [d2 : DefAt defs 2 d_is_plain] [d60 : DefAt defs 60 d_Front___init__] [d61 : DefAt defs 61 d_Front_is_over] [d62 : DefAt defs 62 d_Front_next_text] [d63 : DefAt defs 63 d_Front_opened] [d64 : DefAt defs 64 d_Front_next_signs] [d65 : DefAt defs 65 d_Front_go_on] [d66 : DefAt defs 66 d_Front_by_piece] [d67 : DefAt defs 67 d_Front_by_signs] [d68 : DefAt defs 68 d_is_plain_item] [d69 : DefAt defs 69 d_spell_on]
theorem w_bysigns (wf : WF S) {k : Nat} {Q : VG} {E : XG} {x : List Nat} {F2 : Stt} (H : FrAt g h l a S F) (sp : SpS S F x F2) (v : Vd S F) (hm : ms S F < 1000000) (hx : x.length ≤ 8) (hk : 6 ≤ k) (q : ∀ g', FrAt g' h l a S F2 → OffL [h, l] g g' → Q (.bl true) g') : Gam kl bsP defs k 67 [.ref h, .str (strT x)] g Q E := by
  obtain ⟨k, rfl⟩ : ∃ j, k = j + 1 := ⟨k - 1, by omega⟩
  refine gam_of d67.h rfl ?_
  show b_Front_by_signs _ _ [some (.ref h), some (.str (strT x)), none] _
  unfold b_Front_by_signs
  have hs : sizeLine = 16777216 := rfl
  repeat refine go ?_
  refine ⟨fun i s g' => i ≤ x.length ∧ ∃ F1 v2, SpS S F1 (x.drop i) F2 ∧ Vd S F1 ∧ ms S F1 < 1000000 ∧ FrAt g' h l a S F1 ∧ OffL [h, l] g g' ∧ s = [some (.ref h), some (.str (strT x)), v2],
    ⟨by omega, F, none, sp, v, hm, H, OffL.refl, rfl⟩, ?_⟩
  rintro i s g' ⟨hi, F1, v2, sp1, v1, m1, H1, o1, rfl⟩
  refine ⟨trivial, ?_⟩
  have el : (Sq.str (strT x)).len = x.length := sz_strT x
  rw [el]
  by_cases hlt : i < x.length
  · rw [if_pos hlt]
    refine go ?_
    intro c hc
    have ec : x[i]? = some c := by
      have : (strT x).cps[i]? = x[i]? := by unfold strT; simp
      rw [← this]; exact hc
    have ed : x.drop i = c :: x.drop (i + 1) := by
      rw [List.drop_eq_getElem_cons hlt]
      rw [List.getElem?_eq_getElem hlt] at ec
      rw [Option.some.inj ec]
    rw [ed] at sp1
    cases sp1 with
    | @cons _ _ _ r ws _ op tl =>
    haveI i1 : At g' h _ := ⟨H1.h⟩
    repeat refine go ?_
    refine w_fsig wf H1 op v1 m1 (by omega) fun g2 H2 o2 => ?_
    have v2' := op.vd v1
    have r8 := v2'.r8
    repeat refine go ?_
    refine ⟨by rw [strT_len]; show (c :: r).length ≤ _; have : (c :: r).length ≤ 8 := r8; omega, ?_⟩
    rw [show (1 : Int) = ((1 : Nat) : Int) from rfl, cutS_to, tl_strT]
    repeat refine go ?_
    refine ifNn rfl ?_
    haveI i2 : At g2 h _ := ⟨H2.h⟩
    repeat refine go ?_
    refine w_fgo (m := 1) H2 r8 (by omega) fun g3 H3 o3 => ?_
    refine ⟨_, Sub.refl _, by omega, (r, ws), _, tl, v2'.tail, ?_, H3, (o1.trans o2).trans o3, rfl⟩
    have h2 := op.ms wf v1
    unfold ms at *
    simp only [List.length_cons] at *
    omega
  · rw [if_neg hlt]
    have hie : i = x.length := by omega
    rw [hie, List.drop_length] at sp1
    cases sp1
    repeat refine go ?_
    exact ⟨_, Sub.refl _, q _ H1 o1⟩
theorem w_whole {k : Nat} {Q : VG} {E : XG} {it : Nat ⊕ List Nat} (hk : 1 ≤ k) (q : Q (.bl it.isLeft) g) : Gam kl bsP defs k 1 [itV it] g Q E := by
  obtain ⟨k, rfl⟩ : ∃ j, k = j + 1 := ⟨k - 1, by omega⟩
  refine gam_of d1.h rfl ?_
  show b_is_whole _ _ [some (itV it)] _
  unfold b_is_whole
  cases it with
  | inl n =>
    show (sSeq _ _) _ _ [some (.int n)] _
    repeat refine go ?_
    exact ⟨_, Sub.refl _, q⟩
  | inr x =>
    show (sSeq _ _) _ _ [some (.str (strT x))] _
    repeat refine go ?_
    exact ⟨_, Sub.refl _, q⟩
theorem w_plitem {k : Nat} {Q : VG} {E : XG} {x : List Nat} (h1 : x ≠ []) (h8 : x.length ≤ 8) (pl : plainB (strT x) = true) (hk : 2 ≤ k) (q : Q (.bl true) g) : Gam kl bsP defs k 68 [.str (strT x)] g Q E := by
  obtain ⟨k, rfl⟩ : ∃ j, k = j + 2 := ⟨k - 2, by omega⟩
  refine gam_of d68.h rfl ?_
  show b_is_plain_item _ _ [some (.str (strT x))] _
  unfold b_is_plain_item
  have hs : sizeLine = 16777216 := rfl
  have ln := strT_len x
  have l1 : 1 ≤ x.length := by cases x with | nil => exact absurd rfl h1 | cons c x => simp
  repeat refine go ?_
  refine z_is_plain' d2.h (by show sz (strT x) ≤ _; rw [sz_strT]; omega) ?_
  rw [pl]
  repeat refine go ?_
  refine ⟨by omega, ?_⟩
  repeat refine go ?_
  rw [decide_eq_true (show (1 : Int) ≤ ((strT x).length : Int) by omega)]
  repeat refine go ?_
  rw [decide_eq_true (show ((strT x).length : Int) ≤ 8 by omega)]
  exact ⟨_, Sub.refl _, q⟩
theorem Sp.ms {S : Sh} (wf : WF S) {F G : Stt} {x : List (Nat ⊕ List Nat)} (h : Sp S F x G) (v : Vd S F) : SW.ms S G ≤ SW.ms S F := by
  induction h with
  | nil => exact Nat.le_refl _
  | piece h _ ih =>
    have h1 := ih (h.vd v).pop
    have h2 := h.ms wf v
    unfold SW.ms at *
    simp only [List.map_cons, List.sum_cons] at *
    omega
  | signs _ _ _ h _ ih =>
    have h1 := ih (h.vd v)
    have h2 := h.ms wf v
    omega
theorem w_spellon (wf : WF S) {k : Nat} {Q : VG} {E : XG} {li : Addr} {is : List (Nat ⊕ List Nat)} {F2 : Stt} (H : FrAt g h l a S F) (sp : Sp S F is F2) (hl : g li = some (.lst (is.map itV))) (nh : li ≠ l) (v : Vd S F) (hm : ms S F < 1000000) (hk : 8 ≤ k) (q : ∀ g', FrAt g' h l a S F2 → OffL [h, l] g g' → Q (.bl true) g') : Gam kl bsP defs k 69 [.ref h, .ref li] g Q E := by
  obtain ⟨k, rfl⟩ : ∃ j, k = j + 1 := ⟨k - 1, by omega⟩
  refine gam_of d69.h rfl ?_
  show b_spell_on _ _ [some (.ref h), some (.ref li), none] _
  unfold b_spell_on
  have hs : sizeLine = 16777216 := rfl
  have nh2 : li ≠ h := fun z => by rw [z, H.h] at hl; cases hl
  repeat refine go ?_
  refine .inl ⟨_, .inl hl, ?_⟩
  refine ⟨fun i s g' => i ≤ is.length ∧ ∃ F1 v2, Sp S F1 (is.drop i) F2 ∧ Vd S F1 ∧ ms S F1 < 1000000 ∧ FrAt g' h l a S F1 ∧ OffL [h, l] g g' ∧ s = [some (.ref h), some (.ref li), v2],
    ⟨by omega, F, none, sp, v, hm, H, OffL.refl, rfl⟩, ?_⟩
  rintro i s g' ⟨hi, F1, v2, sp1, v1, m1, H1, o1, rfl⟩
  have gli : g' li = some (.lst (is.map itV)) := o1 li _ (by simp [nh, nh2]) hl
  refine ⟨.inl gli, ?_⟩
  have el : (Sq.lst li (is.map itV)).len = is.length := by show (is.map itV).length = _; rw [List.length_map]
  rw [el]
  by_cases hlt : i < is.length
  · rw [if_pos hlt]
    intro it0 hit
    rw [List.getElem?_map, List.getElem?_eq_getElem hlt] at hit
    injection hit with hit
    subst hit
    rw [List.drop_eq_getElem_cons hlt] at sp1
    generalize hit : is[i] = it at *
    haveI i1 : At g' h _ := ⟨H1.h⟩
    repeat refine go ?_
    refine w_whole (by omega) ?_
    repeat refine go ?_
    have m2 := sp1.ms wf v1
    cases sp1 with
    | @piece _ _ p ws _ op tl =>
      rw [if_pos (show (Sum.inl p : Nat ⊕ List Nat).isLeft = true from rfl)]
      show sSeq _ _ _ _ [some (.ref h), some (.ref li), some (.int p)] _
      repeat refine go ?_
      refine w_bypiece (k := k) (p := p) wf H1 op v1 m1 (by omega) fun g2 H2 o2 => ?_
      repeat refine go ?_
      refine ⟨_, Sub.refl _, by omega, ([], ws), _, tl, (op.vd v1).pop, ?_, H2, o1.trans o2, rfl⟩
      have h2 := op.ms wf v1
      unfold ms at *
      simp only [List.map_cons, List.sum_cons] at *
      omega
    | @signs _ F3 _ x _ h1 h8 pl op tl =>
      rw [if_neg (show ¬ (Sum.inr x : Nat ⊕ List Nat).isLeft = true from by simp)]
      show sSeq _ _ _ _ [some (.ref h), some (.ref li), some (.str (strT x))] _
      repeat refine go ?_
      refine w_plitem (k := k) (x := x) h1 h8 pl (by omega) ?_
      repeat refine go ?_
      refine w_bysigns (k := k) (x := x) wf H1 op v1 m1 h8 (by omega) fun g2 H2 o2 => ?_
      repeat refine go ?_
      refine ⟨_, Sub.refl _, by omega, F3, _, tl, op.vd v1, ?_, H2, o1.trans o2, rfl⟩
      have h2 := op.ms wf v1
      omega
  · rw [if_neg hlt]
    have hie : i = is.length := by omega
    rw [hie, List.drop_length] at sp1
    cases sp1
    repeat refine go ?_
    exact ⟨_, Sub.refl _, q _ H1 o1⟩
end
end SW
end

section
set_option Elab.async false
set_option linter.all false
set_option maxRecDepth 100000
set_option maxHeartbeats 4000000
/-! Ways. -/
namespace SW
open PySem L2
set_option synthInstance.maxHeartbeats 200000
set_option synthInstance.maxSize 100000
/-- the way to a place: the pieces, the leaf's signs, the place within -/
inductive Way (S : Sh) : Nat → Nat → List Nat → Str → Nat → Prop
  | leaf {t p : Nat} {x : Str} : NdL S t x → p < sz x → Way S t p [t] x p
  | left {t a b p p' : Nat} {w : List Nat} {x : Str} : NdF S t a b → p < sgT S a → Way S a p w x p' → Way S t p (t :: w) x p'
  | right {t a b p p' : Nat} {w : List Nat} {x : Str} : NdF S t a b → ¬ p < sgT S a → Way S b (p - sgT S a) w x p' → Way S t p (t :: w) x p'
theorem Way.ex {S : Sh} (wf : WF S) : ∀ {h t p : Nat}, 0 < t → t ≤ S.length → hgT S t ≤ h → p < (rd S t).length → ∃ w x p', Way S t p w x p' ∧ (rd S t)[p]? = x.cps.toList[p']? ∧ w.length ≤ hgT S t + 1 ∧ p' < sz x ∧ sz x ≤ 8 := by
  intro h
  induction h with
  | zero =>
    intro t p h0 h1 hh hp
    rcases wf.nd h0 h1 with ⟨x, n⟩ | ⟨a, b, n⟩
    · rw [n.rd, tl_len'] at hp
      exact ⟨[t], x, p, .leaf n hp, by rw [n.rd], by simp, hp, n.ok.h8⟩
    · have := n.ht; omega
  | succ h ih =>
    intro t p h0 h1 hh hp
    rcases wf.nd h0 h1 with ⟨x, n⟩ | ⟨a, b, n⟩
    · rw [n.rd, tl_len'] at hp
      exact ⟨[t], x, p, .leaf n hp, by rw [n.rd], by simp, hp, n.ok.h8⟩
    · have ha := n.a1
      have hb := n.b1
      have e := n.ht
      have la := wf.len a (by omega)
      rw [n.rd, List.length_append] at hp
      by_cases c : p < sgT S a
      · obtain ⟨w, x, p', q1, q2, q3, q4⟩ := ih n.a0 (by omega) (by omega) (show p < (rd S a).length by omega)
        exact ⟨t :: w, x, p', .left n c q1, by rw [n.rd, List.getElem?_append_left (by omega)]; exact q2, by rw [List.length_cons]; omega, q4⟩
      · obtain ⟨w, x, p', q1, q2, q3, q4⟩ := ih n.b0 (by omega) (by omega) (show p - sgT S a < (rd S b).length by omega)
        exact ⟨t :: w, x, p', .right n c q1, by rw [n.rd, List.getElem?_append_right (by omega), la]; exact q2, by rw [List.length_cons]; omega, q4⟩
theorem Way.head {S : Sh} {t p p' : Nat} {w : List Nat} {x : Str} (h : Way S t p w x p') : ∃ r, w = t :: r := by cases h <;> exact ⟨_, rfl⟩
/-- the last piece of a way is its leaf -/
theorem Way.last {S : Sh} {t p p' : Nat} {w : List Nat} {x : Str} (h : Way S t p w x p') : ∃ u r, w = r ++ [u] ∧ NdL S u x := by
  induction h with
  | leaf n _ => exact ⟨_, [], rfl, n⟩
  | left n c h ih => obtain ⟨u, r, e, q⟩ := ih; exact ⟨u, _ :: r, by rw [e]; rfl, q⟩
  | right n c h ih => obtain ⟨u, r, e, q⟩ := ih; exact ⟨u, _ :: r, by rw [e]; rfl, q⟩
theorem atI_head {α : Type} {xs : List α} {x : α} : atI (x :: xs) 0 = some x := by
  have := atI_nat (xs := x :: xs) (i := 0) (by simp)
  simpa using this
theorem atI_last {α : Type} {xs : List α} {x : α} : atI (xs ++ [x]) (-1) = some x := by
  unfold atI ixN
  rw [if_neg (by omega), if_pos (by rw [List.length_append, List.length_singleton]; omega)]
  show (xs ++ [x])[(((xs ++ [x]).length : Int) + -1).toNat]? = _
  have : (((xs ++ [x]).length : Int) + -1).toNat = xs.length := by rw [List.length_append, List.length_singleton]; omega
  rw [this]; simp
section
variable {kl : Addr → List V → Prop} {defs : Nat → Option FDef} {k : Nat} {g : G} {Q : VG} {E : XG} {a : Addr} {S : Sh} [sa : At g a (.shf S)] [d24 : DefAt defs 24 d_lies_in] [d25 : DefAt defs 25 d_way_and_place] [d26 : DefAt defs 26 d_way_to] [d27 : DefAt defs 27 d_way_stands] [d28 : DefAt defs 28 d_sign_at]
theorem w_lies {t x y p : Nat} (n : NdF S t x y) (hk : 1 ≤ k) (hl : t ≤ S.length) (q : ∀ r, Fr g r → Q (.ref r) (gu g r (.tup (if p < sgT S x then [nV x, nV p] else [nV y, nV (p - sgT S x)])))) : Gam kl bsP defs k 24 [.ref a, .int t, .int p] g Q E := by
  obtain ⟨k, rfl⟩ : ∃ j, k = j + 1 := ⟨k - 1, by omega⟩
  refine gam_of d24.h rfl ?_
  show b_lies_in _ _ [some (.ref a), some (.int t), some (.int p), none, none, none, none] _
  unfold b_lies_in
  haveI : PcF S t x y := ⟨n.pc⟩
  have hx := n.a1
  repeat refine go ?_
  intro c fc
  repeat refine go ?_
  refine ⟨rfl, ?_⟩
  repeat refine go ?_
  refine ⟨by omega, ?_⟩
  repeat refine go ?_
  have fin' : ∀ (r : Addr) (o : O), Fr (gu g c (.tup [.str "fork", .int x, .int y])) r → Fr g r ∧ Sub (gu g r o) (gu (gu g c (.tup [.str "fork", .int x, .int y])) r o) := fun r o h => by
    refine ⟨?_, Sub.gu fc.sub⟩
    refine ⟨?_⟩
    cases z : g r with
    | none => rfl
    | some u => have := fc.sub r u z; rw [h.h] at this; cases this
  by_cases hp : p < sgT S x
  · refine ifD (by omega) ?_
    repeat refine go ?_
    refine ⟨by simp [sizeLine], fun r fr => ?_⟩
    rw [if_pos hp] at q
    obtain ⟨f1, f2⟩ := fin' r _ fr
    exact ⟨_, f2, q r f1⟩
  · refine ifDn (by omega) ?_
    repeat refine go ?_
    refine ⟨by simp [sizeLine], fun r fr => ?_⟩
    rw [if_neg hp] at q
    obtain ⟨f1, f2⟩ := fin' r _ fr
    have e : (p : Int) - (sgT S x : Int) = ((p - sgT S x : Nat) : Int) := by omega
    rw [e]
    exact ⟨_, f2, q r f1⟩
theorem w_way (wf : WF S) {t p p' : Nat} {w ws : List Nat} {x : Str} (h : Rd S t ws) (hp : p < ws.length) (hw : Way S t p w x p') (hwl : w.length ≤ 100) (hk : 2 ≤ k)
    (q : ∀ g' l r, Sub g g' → g' l = some (.lst (w.map nV)) → g l = none → g' r = some (.tup [.ref l, nV p']) → Q (.ref r) g') : Gam kl bsP defs k 25 [.ref a, .int t, .int p] g Q E := by
  obtain ⟨k, rfl⟩ : ∃ j, k = j + 1 := ⟨k - 1, by omega⟩
  refine gam_of d25.h rfl ?_
  show b_way_and_place _ _ [some (.ref a), some (.int t), some (.int p), none, none, none] _
  unfold b_way_and_place
  have hsg := h.sg wf
  have hl := h.le
  have hs : sizeLine = 16777216 := rfl
  repeat refine go ?_
  refine ⟨hl, ?_⟩
  rw [hsg]
  repeat first | refine go ?_ | refine ifD (by omega) ?_ | refine ifN (by omega) ?_ | refine ifNn (by omega) ?_ | rw [decide_eq_true (show (p : Int) < (ws.length : Int) by omega)] | fail
  refine ⟨by simp [sizeLine], fun l fl => ?_⟩
  haveI nal : NeA a l := NeA.of_fr sa fl
  repeat refine go ?_
  refine ⟨fun m s g' => ∃ (pre : List Nat) (c pc : Nat) (w' : List Nat) (v5 : Option V), m = w'.length ∧ w = pre ++ w' ∧ Way S c pc w' x p' ∧ s = [some (.ref a), some (.int t), some (.int pc), some (.int ws.length), some (.ref l), v5] ∧ Sub g g' ∧ g' l = some (.lst ((pre ++ [c]).map nV)),
    ⟨w.length, [], t, p, w, none, rfl, rfl, hw, rfl, Sub.new fl.h, gus⟩, ?_⟩
  rintro m s g' ⟨pre, c, pc, w', v5, rfl, ew, hw', rfl, sub, gl⟩
  haveI i1 : At g' a (.shf S) := ⟨sub _ _ sa.h⟩
  haveI i2 : At g' l _ := ⟨gl⟩
  have ea : atI ((pre ++ [c]).map nV) (-1) = some (nV c) := by rw [List.map_append]; exact atI_last
  have hcl : c ≤ S.length ∧ 0 < c := by cases hw' with | leaf n _ => exact ⟨n.le.2, n.le.1⟩ | left n _ _ => exact ⟨n.le.2, n.le.1⟩ | right n _ _ => exact ⟨n.le.2, n.le.1⟩
  have hpl : pre.length + w'.length ≤ 100 := by rw [ew, List.length_append] at hwl; exact hwl
  repeat refine go ?_
  refine ⟨_, ea, ?_⟩
  repeat refine go ?_
  refine ⟨hcl.1, ?_⟩
  repeat refine go ?_
  rw [htT_pos hcl.2]
  have step : ∀ (x1 y1 : Nat) (n : NdF S c x1 y1) (c2 pc2 : Nat) (w2 : List Nat), w' = c :: w2 → Way S c2 pc2 w2 x p' → (if pc < sgT S x1 then [nV x1, nV pc] else [nV y1, nV (pc - sgT S x1)]) = [nV c2, nV pc2] →
      (sSeq (sAsg (eFn 24 (lCons (eV 0) (lCons (eIx (eV 4) (eNeg (eC (.int 1)))) (lCons (eV 2) lNil)))) (gTp [5, 2])) (sSeq (sDrop (eBm .append (eV 4) (lCons (eV 5) lNil))) sNext)) ⟨kl, Gam kl bsP defs k, fun e x g' => ∃ g'', Sub g'' g' ∧ E e g''⟩
        ⟨fun σ' g'_1 => ∃ m' g'', m' < w'.length ∧ Sub g'' g'_1 ∧ ∃ (pre : List Nat) (c pc : Nat) (w' : List Nat) (v5 : Option V), m' = w'.length ∧ w = pre ++ w' ∧ Way S c pc w' x p' ∧ σ' = [some (.ref a), some (.int t), some (.int pc), some (.int ws.length), some (.ref l), v5] ∧ Sub g g'' ∧ g'' l = some (.lst ((pre ++ [c]).map nV)),
        fun v g' => ∃ g'', Sub g'' g' ∧ Q v g'', sSeq (sRet (eTup (lCons (eV 4) (lCons (eV 2) lNil)))) sNext ⟨kl, Gam kl bsP defs k, fun e x g' => ∃ g'', Sub g'' g' ∧ E e g''⟩ ⟨fun x g' => ∃ g'', Sub g'' g' ∧ Q V.non g'', fun v g' => ∃ g'', Sub g'' g' ∧ Q v g'', fun _ _ => False, fun _ _ => False⟩, fun σ' g'_1 => ∃ m' g'', m' < w'.length ∧ Sub g'' g'_1 ∧ ∃ (pre : List Nat) (c pc : Nat) (w' : List Nat) (v5 : Option V), m' = w'.length ∧ w = pre ++ w' ∧ Way S c pc w' x p' ∧ σ' = [some (.ref a), some (.int t), some (.int pc), some (.int ws.length), some (.ref l), v5] ∧ Sub g g'' ∧ g'' l = some (.lst ((pre ++ [c]).map nV))⟩
        [some (.ref a), some (.int t), some (.int pc), some (.int ws.length), some (.ref l), v5] g' := by
    intro x1 y1 n c2 pc2 w2 e1 e2 e3
    subst e1
    repeat refine go ?_
    refine ⟨_, ea, ?_⟩
    repeat refine go ?_
    refine w_lies n (by omega) hcl.1 fun r fr => ?_
    rw [e3]
    haveI nlr : NeA l r := NeA.of_fr i2 fr
    repeat refine go ?_
    refine ⟨rfl, ?_⟩
    repeat refine go ?_
    rw [List.length_cons] at hpl
    refine ⟨by rw [List.length_map, List.length_append]; simp; omega, ?_⟩
    repeat refine go ?_
    refine ⟨w2.length, _, by rw [List.length_cons]; omega, Sub.refl _, pre ++ [c], c2, pc2, w2, some (nV c2), rfl, by rw [ew]; simp, e2, rfl, fun b o hb => ?_, ?_⟩
    · have hbl : b ≠ l := fun z => by rw [z, fl.h] at hb; cases hb
      rw [gun hbl]
      exact Sub.new fr.h _ _ (sub _ _ hb)
    · rw [gus, List.map_append (l₂ := [c2])]; rfl
  cases hw' with
  | leaf n hx =>
    refine ifDn (by rw [n.ht]; omega) ?_
    repeat refine go ?_
    refine ⟨by simp [sizeLine], fun r fr => ?_⟩
    have frh : g' r = none := fr.h
    refine ⟨_, Sub.refl _, q _ l r (sub.trans (Sub.new frh)) ?_ fl.h gus⟩
    rw [ew]; exact Sub.new frh _ _ gl
  | left n hc h2 =>
    refine ifD (by rw [n.ht]; omega) ?_
    exact step _ _ n _ _ _ rfl h2 (by rw [if_pos hc])
  | right n hc h2 =>
    refine ifD (by rw [n.ht]; omega) ?_
    exact step _ _ n _ _ _ rfl h2 (by rw [if_neg hc])
/-- the sign at a place -/
theorem w_sign (wf : WF S) {t p c : Nat} {ws : List Nat} (h : Rd S t ws) (hc : ws[p]? = some c) (hk : 3 ≤ k) (q : ∀ g', Sub g g' → Q (.str ⟨#[c]⟩) g') : Gam kl bsP defs k 28 [.ref a, .int t, .int p] g Q E := by
  obtain ⟨k, rfl⟩ : ∃ j, k = j + 1 := ⟨k - 1, by omega⟩
  refine gam_of d28.h rfl ?_
  show b_sign_at _ _ [some (.ref a), some (.int t), some (.int p), none, none] _
  unfold b_sign_at
  have hp : p < ws.length := (List.getElem?_eq_some_iff.mp hc).1
  have h0 : 0 < t := by
    by_cases h0 : t = 0
    · subst h0; have := h.rd; rw [rd_zero] at this; rw [← this] at hp; simp at hp
    · omega
  obtain ⟨w, x, p', q1, q2, q3, q4, q5⟩ := Way.ex wf h0 h.le (Nat.le_refl _) (show p < (rd S t).length by rw [h.rd]; exact hp)
  have hh := wf.high h.le
  repeat refine go ?_
  refine w_way wf h hp q1 (by omega) (by omega) fun g' l r s1 gl _ gr => ?_
  haveI i1 : At g' r _ := ⟨gr⟩
  haveI i2 : At g' l _ := ⟨gl⟩
  haveI i3 : At g' a (.shf S) := ⟨s1 _ _ sa.h⟩
  obtain ⟨u, rr, e1, n⟩ := q1.last
  haveI : PcL S u x := ⟨n.pc⟩
  repeat refine go ?_
  refine ⟨rfl, ?_⟩
  repeat refine go ?_
  have ea : atI (w.map nV) (-1) = some (nV u) := by rw [e1, List.map_append]; exact atI_last
  refine ⟨_, ea, ?_⟩
  repeat refine go ?_
  intro pp hpp
  repeat refine go ?_
  refine ⟨_, rfl, ?_⟩
  repeat refine go ?_
  have ec : atI x.cps.toList (p' : Int) = some c := by
    rw [atI_nat (by rw [tl_len']; exact q4), ← hc, ← h.rd, q2, List.getElem?_eq_getElem]
  refine ⟨(p' : Int), c, rfl, by show sz x ≤ _; simp [sizeLine]; omega, ec, ?_⟩
  exact ⟨_, Sub.refl _, q _ (s1.trans hpp.sub)⟩
end
end SW
end

section
set_option Elab.async false
set_option linter.all false
set_option maxRecDepth 100000
set_option maxHeartbeats 4000000
/-! Ways, judged. -/
namespace SW
open PySem L2
set_option synthInstance.maxHeartbeats 200000
set_option synthInstance.maxSize 100000
section
variable {kl : Addr → List V → Prop} {defs : Nat → Option FDef} {k : Nat} {g : G} {Q : VG} {E : XG} {a : Addr} {S : Sh} [sa : At g a (.shf S)] [d24 : DefAt defs 24 d_lies_in] [d25 : DefAt defs 25 d_way_and_place] [d26 : DefAt defs 26 d_way_to] [d27 : DefAt defs 27 d_way_stands] [d28 : DefAt defs 28 d_sign_at]
theorem w_wayto (wf : WF S) {t p p' : Nat} {w ws : List Nat} {x : Str} (h : Rd S t ws) (hp : p < ws.length) (hw : Way S t p w x p') (hwl : w.length ≤ 100) (hk : 3 ≤ k)
    (q : ∀ g' l, Sub g g' → g' l = some (.lst (w.map nV)) → g l = none → Q (.ref l) g') : Gam kl bsP defs k 26 [.ref a, .int t, .int p] g Q E := by
  obtain ⟨k, rfl⟩ : ∃ j, k = j + 1 := ⟨k - 1, by omega⟩
  refine gam_of d26.h rfl ?_
  show b_way_to _ _ [some (.ref a), some (.int t), some (.int p)] _
  unfold b_way_to
  repeat refine go ?_
  refine w_way wf h hp hw hwl (by omega) fun g' l r s1 gl fl gr => ?_
  haveI i1 : At g' r _ := ⟨gr⟩
  repeat refine go ?_
  refine ⟨_, rfl, ?_⟩
  exact ⟨_, Sub.refl _, q g' l s1 gl fl⟩
theorem w_stands (wf : WF S) {t p p' c : Nat} {w ws : List Nat} {x : Str} {l : Addr} (h : Rd S t ws) (hp : p < ws.length) (hw : Way S t p w x p') (hc : x.cps.toList[p']? = some c) (hwl : w.length ≤ 100) [hl : At g l (.lst (w.map nV))] (hk : 2 ≤ k)
    (q : ∀ g', Sub g g' → Q (.bl true) g') : Gam kl bsP defs k 27 [.ref a, .int t, .int p, .ref l, .str ⟨#[c]⟩] g Q E := by
  obtain ⟨k, rfl⟩ : ∃ j, k = j + 1 := ⟨k - 1, by omega⟩
  refine gam_of d27.h rfl ?_
  show b_way_stands _ _ [some (.ref a), some (.int t), some (.int p), some (.ref l), some (.str ⟨#[c]⟩), none, none, none, none] _
  unfold b_way_stands
  have hsg := h.sg wf
  have htl := h.le
  have hs : sizeLine = 16777216 := rfl
  obtain ⟨rw0, ew⟩ := hw.head
  have h0 : 0 < t := by
    by_cases h0 : t = 0
    · subst h0; have := h.rd; rw [rd_zero] at this; rw [← this] at hp; simp at hp
    · omega
  repeat refine go ?_
  refine ⟨htl, ?_⟩
  rw [hsg]
  repeat first | refine go ?_ | refine ifD (by omega) ?_ | refine ifN (by omega) ?_ | refine ifNn (by omega) ?_ | rw [decide_eq_true (show (p : Int) < (ws.length : Int) by omega)] | fail
  refine ⟨by simp, fun e fe => ?_⟩
  repeat refine go ?_
  refine eq_ll' (xs := w.map nV) (ys := []) At.h gus (ints_ok w) rfl ?_
  rw [show eqL (w.map nV) [] = false by rw [ew]; exact eqL_nil]
  repeat refine go ?_
  refine ⟨nV t, by rw [ew]; exact atI_head, ?_⟩
  repeat refine go ?_
  refine ifNn rfl ?_
  repeat refine go ?_
  intro l2 hl2
  rw [show (1 : Int) = ((1 : Nat) : Int) from rfl, cutV_from]
  have s0 : Sub g (gu g e (.lst [])) := Sub.new fe.h
  have s1 : Sub g (gu (gu g e (.lst [])) l2 (.lst ((w.map nV).drop 1))) := s0.trans (Sub.new hl2)
  repeat refine go ?_
  have len1 : ((w.map nV).drop 1).length = w.length - 1 := by simp
  refine ⟨fun i s g' => i + 1 ≤ w.length ∧ ∃ (c1 pc : Nat) (w' : List Nat) (v7 v8 : Option V), w'.length + i = w.length ∧ w.drop i = w' ∧ Way S c1 pc w' x p' ∧ s = [some (.ref a), some (.int t), some (.int pc), some (.ref l), some (.str ⟨#[c]⟩), some (.int ws.length), some (.int c1), v7, v8] ∧ Sub g g' ∧ g' l2 = some (.lst ((w.map nV).drop 1)),
    ⟨by rw [ew]; simp, t, p, w, none, none, by simp, rfl, hw, rfl, s1, gus⟩, ?_⟩
  rintro i s g' ⟨hi, c1, pc, w', v7, v8, e1, e2, hw', rfl, sub, gl2⟩
  refine ⟨.inl gl2, ?_⟩
  show if i < ((w.map nV).drop 1).length then _ else _
  rw [len1]
  haveI i1 : At g' a (.shf S) := ⟨sub _ _ sa.h⟩
  have hcl : c1 ≤ S.length ∧ 0 < c1 := by cases hw' with | leaf n _ => exact ⟨n.le.2, n.le.1⟩ | left n _ _ => exact ⟨n.le.2, n.le.1⟩ | right n _ _ => exact ⟨n.le.2, n.le.1⟩
  have step : ∀ (x1 y1 : Nat) (n : NdF S c1 x1 y1) (c2 pc2 : Nat) (w2 : List Nat), w' = c1 :: w2 → Way S c2 pc2 w2 x p' → (if pc < sgT S x1 then [nV x1, nV pc] else [nV y1, nV (pc - sgT S x1)]) = [nV c2, nV pc2] →
      i < w.length - 1 ∧ ∀ v, ((w.map nV).drop 1)[i]? = some v → v = nV c2 := by
    intro x1 y1 n c2 pc2 w2 ew2 h2 _
    obtain ⟨r2, er⟩ := h2.head
    have hl2 : w'.length = r2.length + 2 := by rw [ew2, er]; simp
    refine ⟨by omega, fun v hv => ?_⟩
    rw [List.getElem?_drop, List.getElem?_map] at hv
    have : w[1 + i]? = some c2 := by
      have h3 : (w.drop i)[1]? = some c2 := by rw [e2, ew2, er]; rfl
      rw [List.getElem?_drop] at h3
      rw [Nat.add_comm]; exact h3
    rw [this] at hv
    cases hv; rfl
  cases hw' with
  | leaf n hx =>
    have : ¬ i < w.length - 1 := by simp at e1; omega
    rw [if_neg this]
    repeat refine go ?_
    refine ⟨hcl.1, ?_⟩
    repeat refine go ?_
    rw [htT_pos hcl.2]
    refine ifDn (by rw [n.ht]; omega) ?_
    haveI : PcL S c1 x := ⟨n.pc⟩
    repeat refine go ?_
    intro pp hpp
    repeat refine go ?_
    refine ⟨_, rfl, ?_⟩
    repeat refine go ?_
    have ho := n.ok.h8
    have ec : atI x.cps.toList (p' : Int) = some c := by
      rw [atI_nat (by rw [tl_len']; exact hx), ← hc, List.getElem?_eq_getElem]
    refine ⟨(p' : Int), c, rfl, Nat.le_trans ho (by simp [sizeLine]), ec, ?_⟩
    repeat refine go ?_
    rw [decide_eq_true rfl]
    exact ⟨_, Sub.refl _, q _ (sub.trans hpp.sub)⟩
  | @left _ x1 y1 _ _ w2 _ n hc' h2 =>
    obtain ⟨q1, q2⟩ := step x1 y1 n x1 pc w2 rfl h2 (by rw [if_pos hc'])
    rw [if_pos q1]
    refine go ?_
    intro v hv
    rw [q2 v hv]
    repeat refine go ?_
    refine ⟨hcl.1, ?_⟩
    repeat refine go ?_
    rw [htT_pos hcl.2]
    refine ifDn (by rw [n.ht]; omega) ?_
    repeat refine go ?_
    refine w_lies n (by omega) hcl.1 fun r fr => ?_
    rw [if_pos hc']
    repeat refine go ?_
    refine ⟨rfl, ?_⟩
    repeat refine go ?_
    refine ifNn rfl ?_
    repeat refine go ?_
    refine ⟨_, Sub.refl _, by omega, x1, pc, w2, _, _, by simp at e1; omega, ?_, h2, rfl, sub.trans (Sub.new fr.h), Sub.new fr.h _ _ gl2⟩
    rw [← List.drop_drop (i := 1), e2]; rfl
  | @right _ x1 y1 _ _ w2 _ n hc' h2 =>
    obtain ⟨q1, q2⟩ := step x1 y1 n y1 (pc - sgT S x1) w2 rfl h2 (by rw [if_neg hc'])
    rw [if_pos q1]
    refine go ?_
    intro v hv
    rw [q2 v hv]
    repeat refine go ?_
    refine ⟨hcl.1, ?_⟩
    repeat refine go ?_
    rw [htT_pos hcl.2]
    refine ifDn (by rw [n.ht]; omega) ?_
    repeat refine go ?_
    refine w_lies n (by omega) hcl.1 fun r fr => ?_
    rw [if_neg hc']
    repeat refine go ?_
    refine ⟨rfl, ?_⟩
    repeat refine go ?_
    refine ifNn rfl ?_
    repeat refine go ?_
    refine ⟨_, Sub.refl _, by omega, y1, pc - sgT S x1, w2, _, _, by simp at e1; omega, ?_, h2, rfl, sub.trans (Sub.new fr.h), Sub.new fr.h _ _ gl2⟩
    rw [← List.drop_drop (i := 1), e2]; rfl
end
end SW
end

section
set_option Elab.async false
set_option linter.all false
set_option maxRecDepth 100000
set_option maxHeartbeats 4000000
/-! Spellings judged. -/
namespace SW
open PySem L2
set_option synthInstance.maxHeartbeats 200000
set_option synthInstance.maxSize 100000
def st0 (t : Nat) : Stt := ([], if t = 0 then [] else [t])
theorem st0_vd {S : Sh} {t : Nat} (h : t ≤ S.length) : Vd S (st0 t) := by
  refine ⟨by simp [st0], ?_, fun u hu => ?_⟩
  · show plainB (strT []) = true
    kernel_rfl
  · unfold st0 at hu
    by_cases h0 : t = 0
    · rw [if_pos h0] at hu; cases hu
    · rw [if_neg h0, List.mem_singleton] at hu; subst hu; omega
theorem st0_fl {S : Sh} {t : Nat} : fl S (st0 t) = rd S t := by
  unfold fl st0
  by_cases h0 : t = 0
  · rw [if_pos h0, h0, rd_zero]; rfl
  · rw [if_neg h0]; simp
theorem WF.lvsg {S : Sh} (w : WF S) : ∀ t, t ≤ S.length → lvT S t ≤ sgT S t := by
  intro t
  induction t using Nat.strongRecOn with
  | ind t ih =>
    intro h1
    rcases Nat.eq_zero_or_pos t with rfl | h0
    · exact Nat.zero_le _
    rcases w.nd h0 h1 with ⟨x, n⟩ | ⟨a, b, n⟩
    · rw [n.lv, n.sg]; exact n.ok.h1
    · have ha := n.a1; have hb := n.b1
      have := ih a ha (by omega)
      have := ih b hb (by omega)
      rw [n.lv, n.sg]; omega
theorem st0_ms {S : Sh} (wf : WF S) {t : Nat} (h : t ≤ S.length) (hs : (rd S t).length ≤ 10000) : ms S (st0 t) ≤ 110000 := by
  unfold ms st0
  have h1 := wf.lvsg t h
  have h2 := wf.len t h
  by_cases h0 : t = 0
  · rw [if_pos h0]; simp
  · rw [if_neg h0]; simp; omega
def ItOk (S : Sh) (is : List (Nat ⊕ List Nat)) : Prop := (∀ p, Sum.inl p ∈ is → 0 < p ∧ p ≤ S.length) ∧ ∀ x, Sum.inr x ∈ is → x.length ≤ 8
theorem Sp.ok {S : Sh} {F G : Stt} {x : List (Nat ⊕ List Nat)} (h : Sp S F x G) (v : Vd S F) : ItOk S x := by
  induction h with
  | nil => exact ⟨fun _ h => (nomatch h), fun _ h => (nomatch h)⟩
  | @piece _ _ p _ _ h _ ih =>
    have k := ih (h.vd v).pop
    have hp := (h.vd v).ws p (by simp)
    refine ⟨fun u hu => ?_, fun x hx => ?_⟩
    · rcases List.mem_cons.mp hu with e | hu
      · cases e; exact hp
      · exact k.1 u hu
    · rcases List.mem_cons.mp hx with e | hx
      · cases e
      · exact k.2 x hx
  | @signs _ _ _ y _ _ h8 _ h _ ih =>
    have k := ih (h.vd v)
    refine ⟨fun u hu => ?_, fun x hx => ?_⟩
    · rcases List.mem_cons.mp hu with e | hu
      · cases e
      · exact k.1 u hu
    · rcases List.mem_cons.mp hx with e | hx
      · cases e; exact h8
      · exact k.2 x hx
theorem itsR_app {S : Sh} {x y : List (Nat ⊕ List Nat)} : itsR S (x ++ y) = itsR S x ++ itsR S y := by unfold itsR; simp
section
variable {kl : Addr → List V → Prop} {defs : Nat → Option FDef} {g : G} {h l a : Addr} {S : Sh} {F : Stt} [jd : JoD defs] [d1 : DefAt defs 1 d_is_whole] [d2 : DefAt defs 2 d_is_plain] [d24 : DefAt defs 24 d_lies_in] [d25 : DefAt defs 25 d_way_and_place] [d26 : DefAt defs 26 d_way_to] [d27 : DefAt defs 27 d_way_stands] [d28 : DefAt defs 28 d_sign_at] [d60 : DefAt defs 60 d_Front___init__] [d61 : DefAt defs 61 d_Front_is_over] [d62 : DefAt defs 62 d_Front_next_text] [d63 : DefAt defs 63 d_Front_opened] [d64 : DefAt defs 64 d_Front_next_signs] [d65 : DefAt defs 65 d_Front_go_on] [d66 : DefAt defs 66 d_Front_by_piece] [d67 : DefAt defs 67 d_Front_by_signs] [d68 : DefAt defs 68 d_is_plain_item] [d69 : DefAt defs 69 d_spell_on] [d70 : DefAt defs 70 d_spells] [d71 : DefAt defs 71 d_begins_text] [d72 : DefAt defs 72 d_items_signs] [d89 : DefAt defs 89 d_sign_behind] [d90 : DefAt defs 90 d_told_stands]
theorem w_finit {k t : Nat} {Q : VG} {E : XG} (sa : g a = some (.shf S)) {p : Addr} (hp : g p = none) (hk : 1 ≤ k) (q : ∀ g' l, Sub g g' → g l = none → FrAt g' p l a S (st0 t) → Q .non g') : Gam kl bsP defs k 60 [.ref p, .ref a, .int t] (gu g p (.ins 1 [])) Q E := by
  obtain ⟨k, rfl⟩ : ∃ j, k = j + 1 := ⟨k - 1, by omega⟩
  refine gam_of d60.h rfl ?_
  show b_Front___init__ _ _ [some (.ref p), some (.ref a), some (.int t)] _
  unfold b_Front___init__
  have hs : sizeLine = 16777216 := rfl
  repeat refine go ?_
  refine ⟨⟨by decide, by simp⟩, ?_⟩
  repeat refine go ?_
  refine ⟨⟨by decide, by simp⟩, ?_⟩
  repeat refine go ?_
  refine ⟨by simp, fun l hl => ?_⟩
  have hl := hl.h
  have npl : p ≠ l := fun z => by rw [← z, gus] at hl; cases hl
  have fl : g l = none := by rw [gun npl.symm, gun npl.symm, gun npl.symm] at hl; exact hl
  generalize hg1 : (gu (gu (gu g p (O.ins 1 [])) p (O.ins 1 [(8, V.ref a)])) p (O.ins 1 [(8, V.ref a), (9, V.str (Str.ofString ""))])) = g1 at *
  have gp1 : g1 p = some (.ins 1 [(8, .ref a), (9, .str (Str.ofString ""))]) := by rw [← hg1, gus]
  have sg1 : Sub g g1 := fun b o hb => by
    have hbp : b ≠ p := fun z => by rw [z, hp] at hb; cases hb
    rw [← hg1, gun hbp, gun hbp, gun hbp]; exact hb
  haveI i1 : At (gu g1 l (.lst [])) p (.ins 1 [(8, .ref a), (9, .str (Str.ofString ""))]) := ⟨(gun npl).trans gp1⟩
  have s2 : Sub g1 (gu g1 l (.lst [])) := Sub.new hl
  have nap : a ≠ p := fun z => by rw [z, hp] at sa; cases sa
  have nal : a ≠ l := fun z => by rw [z, fl] at sa; cases sa
  repeat refine go ?_
  refine ⟨⟨by decide, by simp⟩, ?_⟩
  have gl3 : (gu (gu g1 l (.lst [])) p (.ins 1 [(8, .ref a), (9, .str (Str.ofString "")), (10, .ref l)])) l = some (.lst []) := by rw [gun npl.symm, gus]
  have gp3 : (gu (gu g1 l (.lst [])) p (.ins 1 [(8, .ref a), (9, .str (Str.ofString "")), (10, .ref l)])) p = some (.ins 1 [(8, .ref a), (9, .str (Str.ofString "")), (10, .ref l)]) := gus
  have sg3 : Sub g (gu (gu g1 l (.lst [])) p (.ins 1 [(8, .ref a), (9, .str (Str.ofString "")), (10, .ref l)])) := fun b o hb => by
    have hbp : b ≠ p := fun z => by rw [z, hp] at hb; cases hb
    rw [gun hbp]; exact s2 _ _ (sg1 _ _ hb)
  generalize hg3 : (gu (gu g1 l (.lst [])) p (.ins 1 [(8, .ref a), (9, .str (Str.ofString "")), (10, .ref l)])) = g3 at *
  show sIf _ _ _ _ _ [some (.ref p), some (.ref a), some (.int t)] g3
  haveI i3 : At g3 p _ := ⟨gp3⟩
  haveI i4 : At g3 l _ := ⟨gl3⟩
  repeat refine go ?_
  by_cases h0 : t = 0
  · subst h0
    refine ifNn rfl ?_
    repeat refine go ?_
    refine ⟨_, Sub.refl _, q g3 l sg3 fl ⟨?_, gl3, sg3 _ _ sa⟩⟩
    rw [gp3, ← strT_nil]; rfl
  · refine ifN (by omega) ?_
    repeat refine go ?_
    refine ⟨by simp [sizeLine], ?_⟩
    repeat refine go ?_
    refine ⟨_, Sub.refl _, q _ l (fun b o hb => ?_) fl ⟨?_, ?_, ?_⟩⟩
    · have hbl : b ≠ l := fun z => by rw [z, fl] at hb; cases hb
      rw [gun hbl]; exact sg3 _ _ hb
    · rw [gun npl, gp3, ← strT_nil]; rfl
    · rw [gus]; unfold st0; rw [if_neg h0]; rfl
    · rw [gun nal]; exact sg3 _ _ sa
theorem w_spells (wf : WF S) [sa : At g a (.shf S)] {k t : Nat} {Q : VG} {E : XG} {li : Addr} {is : List (Nat ⊕ List Nat)} (sp : Sp S (st0 t) is ([], [])) (hl : g li = some (.lst (is.map itV))) (ht : t ≤ S.length) (hsz : (rd S t).length ≤ 10000) (hk : 10 ≤ k) (q : ∀ g', Sub g g' → Q (.bl true) g') : Gam kl bsP defs k 70 [.ref a, .int t, .ref li] g Q E := by
  obtain ⟨k, rfl⟩ : ∃ j, k = j + 1 := ⟨k - 1, by omega⟩
  refine gam_of d70.h rfl ?_
  show b_spells _ _ [some (.ref a), some (.int t), some (.ref li), none] _
  unfold b_spells
  repeat refine go ?_
  refine ⟨ht, ?_⟩
  repeat refine go ?_
  intro p hp
  refine w_finit (defs := defs) (k := k) sa.h hp (by omega) fun g1 l s1 fl H1 => ⟨rfl, ?_⟩
  repeat refine go ?_
  have hm := st0_ms wf ht hsz
  refine w_spellon (defs := defs) (k := k) wf H1 sp (s1 _ _ hl) (fun z => by rw [z, fl] at hl; cases hl) (st0_vd ht) (by omega) (by omega) fun g2 H2 o2 => ?_
  haveI i2 : At g2 p _ := ⟨H2.h⟩
  have s2 : Sub g g2 := o2.sub s1 (by
    intro b hb
    rcases List.mem_cons.mp hb with rfl | hb
    · exact hp
    · rw [List.mem_singleton] at hb; rw [hb]; exact fl)
  repeat refine go ?_
  refine w_fover (k := k) H2 (by omega) fun g3 s3 => ?_
  exact ⟨_, Sub.refl _, q _ (s2.trans s3)⟩
theorem w_begins (wf : WF S) [sa : At g a (.shf S)] {k t : Nat} {Q : VG} {E : XG} {li : Addr} {is : List (Nat ⊕ List Nat)} {F2 : Stt} (sp : Sp S (st0 t) is F2) (hl : g li = some (.lst (is.map itV))) (ht : t ≤ S.length) (hsz : (rd S t).length ≤ 10000) (hk : 10 ≤ k) (q : ∀ g', Sub g g' → Q (.bl true) g') : Gam kl bsP defs k 71 [.ref a, .int t, .ref li] g Q E := by
  obtain ⟨k, rfl⟩ : ∃ j, k = j + 1 := ⟨k - 1, by omega⟩
  refine gam_of d71.h rfl ?_
  show b_begins_text _ _ [some (.ref a), some (.int t), some (.ref li)] _
  unfold b_begins_text
  repeat refine go ?_
  refine ⟨ht, ?_⟩
  repeat refine go ?_
  intro p hp
  refine w_finit (defs := defs) (k := k) sa.h hp (by omega) fun g1 l s1 fl H1 => ⟨rfl, ?_⟩
  repeat refine go ?_
  have hm := st0_ms wf ht hsz
  refine w_spellon (defs := defs) (k := k) wf H1 sp (s1 _ _ hl) (fun z => by rw [z, fl] at hl; cases hl) (st0_vd ht) (by omega) (by omega) fun g2 H2 o2 => ?_
  have s2 : Sub g g2 := o2.sub s1 (by
    intro b hb
    rcases List.mem_cons.mp hb with rfl | hb
    · exact hp
    · rw [List.mem_singleton] at hb; rw [hb]; exact fl)
  exact ⟨_, Sub.refl _, q _ s2⟩
theorem w_itsigns (wf : WF S) [sa : At g a (.shf S)] {k : Nat} {Q : VG} {E : XG} {li : Addr} {is : List (Nat ⊕ List Nat)} (ok : ItOk S is) (hl : g li = some (.lst (is.map itV))) (hk : 3 ≤ k) (q : Q (nV (itsR S is).length) g) : Gam kl bsP defs k 72 [.ref a, .ref li] g Q E := by
  obtain ⟨k, rfl⟩ : ∃ j, k = j + 1 := ⟨k - 1, by omega⟩
  refine gam_of d72.h rfl ?_
  show b_items_signs _ _ [some (.ref a), some (.ref li), none, none] _
  unfold b_items_signs
  have hs : sizeLine = 16777216 := rfl
  repeat refine go ?_
  refine .inl ⟨_, .inl hl, ?_⟩
  refine ⟨fun i s g' => i ≤ is.length ∧ ∃ v3, g' = g ∧ s = [some (.ref a), some (.ref li), some (.int (itsR S (is.take i)).length), v3],
    ⟨by omega, none, rfl, rfl⟩, ?_⟩
  rintro i s g' ⟨hi, v3, rfl, rfl⟩
  refine ⟨.inl hl, ?_⟩
  have el : (Sq.lst li (is.map itV)).len = is.length := by show (is.map itV).length = _; rw [List.length_map]
  rw [el]
  by_cases hlt : i < is.length
  · rw [if_pos hlt]
    intro it0 hit
    rw [List.getElem?_map, List.getElem?_eq_getElem hlt] at hit
    injection hit with hit
    subst hit
    have mem : is[i] ∈ is := List.getElem_mem hlt
    have etk : is.take (i + 1) = is.take i ++ [is[i]] := by rw [List.take_succ, List.getElem?_eq_getElem hlt]; rfl
    generalize hit : is[i] = it at *
    have elen : (itsR S (is.take (i + 1))).length = (itsR S (is.take i)).length + (itR S it).length := by
      rw [etk, itsR_app, List.length_append]; unfold itsR; simp
    repeat refine go ?_
    refine w_whole (by omega) ?_
    repeat refine go ?_
    cases it with
    | inl p =>
      obtain ⟨p0, p1⟩ := ok.1 p mem
      rw [if_pos (show (Sum.inl p : Nat ⊕ List Nat).isLeft = true from rfl)]
      show sSeq _ _ _ _ [some (.ref a), some (.ref li), some (.int (itsR S (is.take i)).length), some (.int p)] _
      repeat refine go ?_
      refine ifDn (by omega) ?_
      repeat refine go ?_
      refine ⟨p1, ?_⟩
      repeat refine go ?_
      refine ⟨_, Sub.refl _, by omega, some (.int p), rfl, ?_⟩
      have e : ((itsR S (is.take i)).length : Int) + ((sgT S p : Nat) : Int) = ((itsR S (is.take (i + 1))).length : Int) := by
        rw [elen, ← wf.len p p1]; simp [itR]
      rw [e]
    | inr x =>
      have h8 := ok.2 x mem
      rw [if_neg (show ¬ (Sum.inr x : Nat ⊕ List Nat).isLeft = true from by simp)]
      show sSeq _ _ _ _ [some (.ref a), some (.ref li), some (.int (itsR S (is.take i)).length), some (.str (strT x))] _
      repeat refine go ?_
      refine ⟨by rw [strT_len]; omega, ?_⟩
      repeat refine go ?_
      refine ⟨_, Sub.refl _, by omega, some (.str (strT x)), rfl, ?_⟩
      have e : ((itsR S (is.take i)).length : Int) + ((strT x).length : Int) = ((itsR S (is.take (i + 1))).length : Int) := by
        rw [elen, strT_len]; simp [itR]
      rw [e]
  · rw [if_neg hlt]
    have hie : i = is.length := by omega
    rw [hie, List.take_length]
    repeat refine go ?_
    exact ⟨_, Sub.refl _, q⟩
theorem w_sbehind (wf : WF S) [sa : At g a (.shf S)] {k t p : Nat} {Q : VG} {E : XG} (ht : t ≤ S.length) (hk : 4 ≤ k) (q : ∀ g', Sub g g' → Q (.str (strT (((rd S t).drop p).take 1))) g') : Gam kl bsP defs k 89 [.ref a, .int t, .int p] g Q E := by
  obtain ⟨k, rfl⟩ : ∃ j, k = j + 1 := ⟨k - 1, by omega⟩
  refine gam_of d89.h rfl ?_
  show b_sign_behind _ _ [some (.ref a), some (.int t), some (.int p)] _
  unfold b_sign_behind
  have hl := wf.len t ht
  repeat refine go ?_
  refine ⟨ht, ?_⟩
  repeat refine go ?_
  by_cases hp : p < (rd S t).length
  · refine ifDn (by omega) ?_
    repeat refine go ?_
    refine w_sign (k := k) wf ⟨ht, rfl⟩ (List.getElem?_eq_getElem hp) (by omega) fun g1 s1 => ?_
    have e : ((rd S t).drop p).take 1 = [(rd S t)[p]] := by rw [List.drop_eq_getElem_cons hp]; rfl
    have q1 := q g1 s1
    rw [e] at q1
    exact ⟨_, Sub.refl _, q1⟩
  · refine ifD (by omega) ?_
    repeat refine go ?_
    have q1 := q g (Sub.refl _)
    rw [List.drop_eq_nil_of_le (by omega)] at q1
    refine ⟨_, Sub.refl _, ?_⟩
    rw [← strT_nil]; exact q1
theorem w_tstA (wf : WF S) [sa : At g a (.shf S)] {k t u : Nat} {Q : VG} {E : XG} {li tp : Addr} {is : List (Nat ⊕ List Nat)} (sp1 : Sp S (st0 t) is ([], [])) (sp2 : Sp S (st0 u) is ([], [])) (hl : g li = some (.lst (is.map itV))) (htp : g tp = some (.tup [.str "alike", .ref li])) (ht : t ≤ S.length) (hu : u ≤ S.length) (hst : (rd S t).length ≤ 10000) (hsu : (rd S u).length ≤ 10000) (hk : 12 ≤ k) (q : ∀ g', Sub g g' → Q (.bl true) g') : Gam kl bsP defs k 90 [.ref a, .int t, .int u, .ref tp] g Q E := by
  obtain ⟨k, rfl⟩ : ∃ j, k = j + 1 := ⟨k - 1, by omega⟩
  refine gam_of d90.h rfl ?_
  show b_told_stands _ _ [some (.ref a), some (.int t), some (.int u), some (.ref tp), none, none, none, none] _
  unfold b_told_stands
  haveI i1 : At g tp _ := ⟨htp⟩
  haveI i2 : At g li _ := ⟨hl⟩
  repeat refine go ?_
  refine ⟨ht, ?_⟩
  repeat refine go ?_
  refine ⟨hu, ?_⟩
  repeat refine go ?_
  refine ⟨_, rfl, ?_⟩
  repeat refine go ?_
  refine ⟨_, rfl, ?_⟩
  repeat refine go ?_
  refine ifD rfl ?_
  repeat refine go ?_
  refine w_spells (k := k) wf sp1 hl ht hst (by omega) fun g1 s1 => ?_
  haveI j1 : At g1 a _ := ⟨s1 _ _ sa.h⟩
  repeat refine go ?_
  refine w_spells (k := k) wf sp2 (s1 _ _ hl) hu hsu (by omega) fun g2 s2 => ?_
  exact ⟨_, Sub.refl _, q _ (s1.trans s2)⟩
theorem w_tstB (wf : WF S) [sa : At g a (.shf S)] {k t u : Nat} {Q : VG} {E : XG} {li tp : Addr} {is : List (Nat ⊕ List Nat)} {F1 F2 : Stt} {x y : List Nat} (sp1 : Sp S (st0 t) is F1) (sp2 : Sp S (st0 u) is F2) (hl : g li = some (.lst (is.map itV))) (htp : g tp = some (.tup [.str "apart", .ref li, .str (strT x), .str (strT y)])) (ht : t ≤ S.length) (hu : u ≤ S.length) (hst : (rd S t).length ≤ 10000) (hsu : (rd S u).length ≤ 10000)
    (ex : (fl S F1).take 1 = x) (ey : (fl S F2).take 1 = y) (hxy : x ≠ y) (hk : 12 ≤ k) (q : ∀ g', Sub g g' → Q (.bl true) g') : Gam kl bsP defs k 90 [.ref a, .int t, .int u, .ref tp] g Q E := by
  obtain ⟨k, rfl⟩ : ∃ j, k = j + 1 := ⟨k - 1, by omega⟩
  refine gam_of d90.h rfl ?_
  show b_told_stands _ _ [some (.ref a), some (.int t), some (.int u), some (.ref tp), none, none, none, none] _
  unfold b_told_stands
  haveI i1 : At g tp _ := ⟨htp⟩
  haveI i2 : At g li _ := ⟨hl⟩
  have ok := sp1.ok (st0_vd ht)
  have f1 : rd S t = itsR S is ++ fl S F1 := by rw [← sp1.fl, st0_fl]
  have f2 : rd S u = itsR S is ++ fl S F2 := by rw [← sp2.fl, st0_fl]
  have x1 : ((rd S t).drop (itsR S is).length).take 1 = x := by rw [f1, List.drop_left, ex]
  have x2 : ((rd S u).drop (itsR S is).length).take 1 = y := by rw [f2, List.drop_left, ey]
  repeat refine go ?_
  refine ⟨ht, ?_⟩
  repeat refine go ?_
  refine ⟨hu, ?_⟩
  repeat refine go ?_
  refine ⟨_, rfl, ?_⟩
  repeat refine go ?_
  refine ⟨_, rfl, ?_⟩
  repeat refine go ?_
  refine ifDn (by decide +kernel) ?_
  repeat refine go ?_
  refine w_begins (k := k) wf sp1 hl ht hst (by omega) fun g1 s1 => ?_
  haveI j1 : At g1 a _ := ⟨s1 _ _ sa.h⟩
  repeat refine go ?_
  refine w_begins (k := k) wf sp2 (s1 _ _ hl) hu hsu (by omega) fun g2 s2 => ?_
  have s12 := s1.trans s2
  haveI j2 : At g2 a _ := ⟨s12 _ _ sa.h⟩
  repeat refine go ?_
  refine w_itsigns (k := k) wf ok (s12 _ _ hl) (by omega) ?_
  repeat refine go ?_
  refine w_sbehind (k := k) (p := (itsR S is).length) wf ht (by omega) fun g3 s3 => ?_
  rw [x1]
  haveI j3 : At g3 a _ := ⟨s3 _ _ (s12 _ _ sa.h)⟩
  repeat refine go ?_
  refine w_sbehind (k := k) (p := (itsR S is).length) wf hu (by omega) fun g4 s4 => ?_
  rw [x2]
  have s14 := (s12.trans s3).trans s4
  haveI j4 : At g4 tp _ := ⟨s14 _ _ htp⟩
  repeat refine go ?_
  rw [decide_eq_false (show ¬ strT x = strT y from fun z => hxy (strT_inj z))]
  repeat refine go ?_
  refine ⟨_, rfl, ?_⟩
  repeat refine go ?_
  rw [decide_eq_true (show strT x = strT x from rfl)]
  repeat refine go ?_
  refine ⟨_, rfl, ?_⟩
  repeat refine go ?_
  rw [decide_eq_true (show strT y = strT y from rfl)]
  exact ⟨_, Sub.refl _, q _ s14⟩
end
end SW
end

section
set_option Elab.async false
set_option linter.all false
set_option maxRecDepth 100000
set_option maxHeartbeats 4000000
/-! Readers. -/
namespace SW
open PySem L2
set_option synthInstance.maxHeartbeats 200000
set_option synthInstance.maxSize 100000
structure RdAt (g : G) (h l a : Addr) (S : Sh) (F : Stt) : Prop where
  h : g h = some (.ins 2 [(11, .ref a), (12, .str (strT F.1)), (13, .ref l)])
  l : g l = some (.lst (F.2.reverse.map nV))
  s : g a = some (.shf S)
theorem RdAt.sub {g g' : G} {h l a : Addr} {S : Sh} {F : Stt} (s : Sub g g') (k : RdAt g h l a S F) : RdAt g' h l a S F := ⟨s _ _ k.h, s _ _ k.l, s _ _ k.s⟩
theorem RdAt.off {g g' : G} {h l a : Addr} {S : Sh} {F : Stt} {L : List Addr} (s : OffL L g g') (n1 : h ∉ L) (n2 : l ∉ L) (n3 : a ∉ L) (k : RdAt g h l a S F) : RdAt g' h l a S F := ⟨s _ _ n1 k.h, s _ _ n2 k.l, s _ _ n3 k.s⟩
section
variable {kl : Addr → List V → Prop} {defs : Nat → Option FDef} {g : G} {h l a : Addr} {S : Sh} {F : Stt} [jd : JoD defs] [d78 : DefAt defs 78 d_Reader___init__] [d79 : DefAt defs 79 d_Reader_is_over] [d80 : DefAt defs 80 d_Reader_next_piece] [d81 : DefAt defs 81 d_Reader_passed] [d82 : DefAt defs 82 d_Reader_opened] [d83 : DefAt defs 83 d_Reader_next_sign] [d84 : DefAt defs 84 d_Reader_gone] [d85 : DefAt defs 85 d_in_common]
theorem w_rover {k : Nat} {Q : VG} {E : XG} (H : RdAt g h l a S F) (hk : 1 ≤ k) (q : ∀ g', Sub g g' → Q (.bl (decide (F = ([], [])))) g') : Gam kl bsP defs k 79 [.ref h] g Q E := by
  obtain ⟨k, rfl⟩ : ∃ j, k = j + 1 := ⟨k - 1, by omega⟩
  refine gam_of d79.h rfl ?_
  show b_Reader_is_over _ _ [some (.ref h)] _
  unfold b_Reader_is_over
  haveI i1 : At g h _ := ⟨H.h⟩
  haveI i2 : At g l _ := ⟨H.l⟩
  repeat refine go ?_
  obtain ⟨r, ws⟩ := F
  by_cases hr : r = []
  · subst hr
    refine ifD strT_nil ?_
    repeat refine go ?_
    refine ⟨by simp, fun p fp => ?_⟩
    repeat refine go ?_
    refine eq_ll' (At.h (a := l)) gus (ints_ok _) rfl ?_
    rw [eqL_rev]
    refine ⟨_, Sub.refl _, ?_⟩
    have e : decide (ws = []) = decide ((([] : List Nat), ws) = (([] : List Nat), ([] : List Nat))) := by
      cases ws <;> simp
    rw [e]
    exact q _ (Sub.new fp.h)
  · have hr2 : ¬ strT r = Str.ofString "" := fun z => hr (strT_e.mp z)
    rw [decide_eq_false (show ¬ strT ((r, ws) : Stt).1 = Str.ofString "" from hr2)]
    rw [if_neg (by decide)]
    refine ⟨_, Sub.refl _, ?_⟩
    have e : false = decide ((r, ws) = (([] : List Nat), ([] : List Nat))) := by
      symm
      rw [decide_eq_false_iff_not]
      intro z
      injection z with z _
      exact hr z
    rw [e]
    exact q _ (Sub.refl _)
theorem w_rnext {k : Nat} {Q : VG} {E : XG} (H : RdAt g h l a S F) (hk : 1 ≤ k) (q : ∀ g', Sub g g' → Q (nV (if F.1 = [] then F.2.headD 0 else 0)) g') : Gam kl bsP defs k 80 [.ref h] g Q E := by
  obtain ⟨k, rfl⟩ : ∃ j, k = j + 1 := ⟨k - 1, by omega⟩
  refine gam_of d80.h rfl ?_
  show b_Reader_next_piece _ _ [some (.ref h)] _
  unfold b_Reader_next_piece
  haveI i1 : At g h _ := ⟨H.h⟩
  haveI i2 : At g l _ := ⟨H.l⟩
  repeat refine go ?_
  obtain ⟨r, ws⟩ := F
  by_cases hr : r = []
  · subst hr
    refine ifNn (by exact strT_nil) ?_
    repeat refine go ?_
    refine ⟨by simp, fun p fp => ?_⟩
    have np : h ≠ p := fun z => by have := fp.h; rw [← z, H.h] at this; cases this
    have nl : l ≠ p := fun z => by have := fp.h; rw [← z, H.l] at this; cases this
    haveI i3 : At (gu g p (.lst [])) h _ := ⟨(gun np).trans H.h⟩
    haveI i4 : At (gu g p (.lst [])) l _ := ⟨(gun nl).trans H.l⟩
    repeat refine go ?_
    refine eq_ll' (At.h (a := l)) gus (ints_ok _) rfl ?_
    rw [eqL_rev]
    cases ws with
    | nil =>
      repeat refine go ?_
      exact ⟨_, Sub.refl _, q _ (Sub.new fp.h)⟩
    | cons t ws =>
      rw [decide_eq_false (show ¬ t :: ws = [] by simp)]
      repeat refine go ?_
      refine ⟨nV t, ?_, ?_⟩
      · show atI (((t :: ws).reverse).map nV) (-1) = _
        rw [List.reverse_cons, List.map_append]; exact atI_last
      · exact ⟨_, Sub.refl _, q _ (Sub.new fp.h)⟩
  · have hr2 : ¬ strT r = Str.ofString "" := fun z => hr (strT_e.mp z)
    refine ifN hr2 ?_
    repeat refine go ?_
    have q1 := q g (Sub.refl _)
    rw [if_neg hr] at q1
    exact ⟨_, Sub.refl _, q1⟩
theorem w_rgone {k m : Nat} {Q : VG} {E : XG} (H : RdAt g h l a S F) (hl : F.1.length ≤ 8) (hk : 1 ≤ k) (q : ∀ g', RdAt g' h l a S (F.1.drop m, F.2) → OffL [h, l] g g' → Q .non g') : Gam kl bsP defs k 84 [.ref h, .int m] g Q E := by
  obtain ⟨k, rfl⟩ : ∃ j, k = j + 1 := ⟨k - 1, by omega⟩
  refine gam_of d84.h rfl ?_
  show b_Reader_gone _ _ [some (.ref h), some (.int m)] _
  unfold b_Reader_gone
  have hs : sizeLine = 16777216 := rfl
  haveI i1 : At g h _ := ⟨H.h⟩
  have nhl : h ≠ l := fun z => by have := H.h; rw [z, H.l] at this; cases this
  have nha : h ≠ a := fun z => by have := H.h; rw [z, H.s] at this; cases this
  repeat refine go ?_
  refine ⟨by rw [strT_len]; omega, ?_⟩
  rw [cutS_from, tl_strT]
  repeat refine go ?_
  refine ⟨⟨by decide, by simp⟩, ?_⟩
  repeat refine go ?_
  refine ⟨_, Sub.refl _, q _ ⟨?_, ?_, ?_⟩ fun b o hb hbo => ?_⟩
  · rw [gus]; rfl
  · rw [gun nhl.symm]; exact H.l
  · rw [gun nha.symm]; exact H.s
  · rw [gun (fun z => hb (by rw [z]; simp))]; exact hbo
theorem w_rinit {k t : Nat} {Q : VG} {E : XG} (sa : g a = some (.shf S)) {p : Addr} (hp : g p = none) (hk : 1 ≤ k) (q : ∀ g' l, Sub g g' → g l = none → RdAt g' p l a S (st0 t) → Q .non g') : Gam kl bsP defs k 78 [.ref p, .ref a, .int t] (gu g p (.ins 2 [])) Q E := by
  obtain ⟨k, rfl⟩ : ∃ j, k = j + 1 := ⟨k - 1, by omega⟩
  refine gam_of d78.h rfl ?_
  show b_Reader___init__ _ _ [some (.ref p), some (.ref a), some (.int t)] _
  unfold b_Reader___init__
  have hs : sizeLine = 16777216 := rfl
  repeat refine go ?_
  refine ⟨⟨by decide, by simp⟩, ?_⟩
  repeat refine go ?_
  refine ⟨⟨by decide, by simp⟩, ?_⟩
  repeat refine go ?_
  refine ⟨by simp, fun l hl => ?_⟩
  have hl := hl.h
  have npl : p ≠ l := fun z => by rw [← z, gus] at hl; cases hl
  have fl : g l = none := by rw [gun npl.symm, gun npl.symm, gun npl.symm] at hl; exact hl
  generalize hg1 : (gu (gu (gu g p (O.ins 2 [])) p (O.ins 2 [(11, V.ref a)])) p (O.ins 2 [(11, V.ref a), (12, V.str (Str.ofString ""))])) = g1 at *
  have gp1 : g1 p = some (.ins 2 [(11, .ref a), (12, .str (Str.ofString ""))]) := by rw [← hg1, gus]
  have sg1 : Sub g g1 := fun b o hb => by
    have hbp : b ≠ p := fun z => by rw [z, hp] at hb; cases hb
    rw [← hg1, gun hbp, gun hbp, gun hbp]; exact hb
  haveI i1 : At (gu g1 l (.lst [])) p (.ins 2 [(11, .ref a), (12, .str (Str.ofString ""))]) := ⟨(gun npl).trans gp1⟩
  have s2 : Sub g1 (gu g1 l (.lst [])) := Sub.new hl
  have nap : a ≠ p := fun z => by rw [z, hp] at sa; cases sa
  have nal : a ≠ l := fun z => by rw [z, fl] at sa; cases sa
  repeat refine go ?_
  refine ⟨⟨by decide, by simp⟩, ?_⟩
  have gl3 : (gu (gu g1 l (.lst [])) p (.ins 2 [(11, .ref a), (12, .str (Str.ofString "")), (13, .ref l)])) l = some (.lst []) := by rw [gun npl.symm, gus]
  have gp3 : (gu (gu g1 l (.lst [])) p (.ins 2 [(11, .ref a), (12, .str (Str.ofString "")), (13, .ref l)])) p = some (.ins 2 [(11, .ref a), (12, .str (Str.ofString "")), (13, .ref l)]) := gus
  have sg3 : Sub g (gu (gu g1 l (.lst [])) p (.ins 2 [(11, .ref a), (12, .str (Str.ofString "")), (13, .ref l)])) := fun b o hb => by
    have hbp : b ≠ p := fun z => by rw [z, hp] at hb; cases hb
    rw [gun hbp]; exact s2 _ _ (sg1 _ _ hb)
  generalize hg3 : (gu (gu g1 l (.lst [])) p (.ins 2 [(11, .ref a), (12, .str (Str.ofString "")), (13, .ref l)])) = g3 at *
  show sIf _ _ _ _ _ [some (.ref p), some (.ref a), some (.int t)] g3
  haveI i3 : At g3 p _ := ⟨gp3⟩
  haveI i4 : At g3 l _ := ⟨gl3⟩
  repeat refine go ?_
  by_cases h0 : t = 0
  · subst h0
    refine ifNn rfl ?_
    repeat refine go ?_
    refine ⟨_, Sub.refl _, q g3 l sg3 fl ⟨?_, gl3, sg3 _ _ sa⟩⟩
    rw [gp3, ← strT_nil]; rfl
  · refine ifN (by omega) ?_
    repeat refine go ?_
    refine ⟨by simp [sizeLine], ?_⟩
    repeat refine go ?_
    refine ⟨_, Sub.refl _, q _ l (fun b o hb => ?_) fl ⟨?_, ?_, ?_⟩⟩
    · have hbl : b ≠ l := fun z => by rw [z, fl] at hb; cases hb
      rw [gun hbl]; exact sg3 _ _ hb
    · rw [gun npl, gp3, ← strT_nil]; rfl
    · rw [gus]; unfold st0; rw [if_neg h0]; rfl
    · rw [gun nal]; exact sg3 _ _ sa
theorem w_ropen {k : Nat} {Q : VG} {E : XG} {G' : Stt} (H : RdAt g h l a S F) (o : Opn S F G') (v : Vd S F) (hm : F.2.length + 2 < sizeLine) (hk : 3 ≤ k) (q : ∀ g', RdAt g' h l a S G' → OffL [h, l] g g' → Q .non g') : Gam kl bsP defs k 82 [.ref h] g Q E := by
  obtain ⟨k, rfl⟩ : ∃ j, k = j + 1 := ⟨k - 1, by omega⟩
  refine gam_of d82.h rfl ?_
  show b_Reader_opened _ _ [some (.ref h), none] _
  unfold b_Reader_opened
  haveI i1 : At g h _ := ⟨H.h⟩
  haveI i2 : At g l _ := ⟨H.l⟩
  haveI i3 : At g a _ := ⟨H.s⟩
  repeat refine go ?_
  have nhl : h ≠ l := fun z => by have := H.h; rw [z, H.l] at this; cases this
  have nha : h ≠ a := fun z => by have := H.h; rw [z, H.s] at this; cases this
  have nla : l ≠ a := fun z => by have := H.l; rw [z, H.s] at this; cases this
  have off1 : ∀ xs, OffL [h, l] g (gu g l (.lst xs)) := fun xs b o hb hbo => by
    rw [gun (fun z => hb (by rw [z]; simp))]; exact hbo
  cases o with
  | @leaf t y ws n =>
    refine ⟨l, ((t :: ws).reverse).map nV, nV t, rfl, H.l, by simp, ?_⟩
    have ed : (((t :: ws).reverse).map nV).dropLast = ws.reverse.map nV := by simp
    rw [ed]
    haveI j1 : At (gu g l (.lst (ws.reverse.map nV))) h _ := ⟨(gun nhl).trans H.h⟩
    haveI j2 : At (gu g l (.lst (ws.reverse.map nV))) a _ := ⟨(gun nla.symm).trans H.s⟩
    haveI : PcL S t y := ⟨n.pc⟩
    repeat refine go ?_
    intro p hp
    repeat refine go ?_
    refine ⟨_, rfl, ?_⟩
    repeat refine go ?_
    refine ifD rfl ?_
    repeat refine go ?_
    refine ⟨_, rfl, ?_⟩
    repeat refine go ?_
    refine ⟨⟨by decide, by simp⟩, ?_⟩
    repeat refine go ?_
    refine ⟨_, Sub.refl _, q _ ⟨?_, ?_, ?_⟩ fun b o hb hbo => ?_⟩
    · rw [gus, strT_tl]
    · rw [gun nhl.symm]; exact hp.sub _ _ gus
    · rw [gun nha.symm]; exact hp.sub _ _ j2.h
    · rw [gun (fun z => hb (by rw [z]; simp))]; exact hp.sub _ _ (off1 _ b o hb hbo)
  | @fork t u v' ws n =>
    refine ⟨l, ((t :: ws).reverse).map nV, nV t, rfl, H.l, by simp, ?_⟩
    have ed : (((t :: ws).reverse).map nV).dropLast = ws.reverse.map nV := by simp
    rw [ed]
    haveI j1 : At (gu g l (.lst (ws.reverse.map nV))) h _ := ⟨(gun nhl).trans H.h⟩
    haveI j2 : At (gu g l (.lst (ws.reverse.map nV))) a _ := ⟨(gun nla.symm).trans H.s⟩
    haveI j3 : At (gu g l (.lst (ws.reverse.map nV))) l (.lst (ws.reverse.map nV)) := ⟨gus⟩
    haveI : PcF S t u v' := ⟨n.pc⟩
    have ht := v.ws t (by simp)
    repeat refine go ?_
    intro p hp
    repeat refine go ?_
    refine ⟨_, rfl, ?_⟩
    repeat refine go ?_
    refine ifDn (by decide +kernel) ?_
    repeat refine go ?_
    refine ⟨_, rfl, ?_⟩
    repeat refine go ?_
    refine ⟨_, rfl, ?_⟩
    repeat refine go ?_
    refine ⟨by simp [sizeLine], fun p2 fp2 => ?_⟩
    generalize hg1 : gu (gu g l (.lst (ws.reverse.map nV))) p (.tup [.str "fork", .int u, .int v']) = g1 at *
    have s1 : Sub (gu g l (.lst (ws.reverse.map nV))) g1 := by rw [← hg1]; exact hp.sub
    have s2 : Sub g1 (gu g1 p2 (.lst [.int v', .int u])) := Sub.new fp2.h
    have nlp : l ≠ p2 := fun z => by have := fp2.h; rw [← z, s1 _ _ j3.h] at this; cases this
    haveI k1 : At (gu g1 p2 (.lst [.int v', .int u])) l _ := ⟨s2 _ _ (s1 _ _ j3.h)⟩
    haveI k2 : At (gu g1 p2 (.lst [.int v', .int u])) h _ := ⟨s2 _ _ (s1 _ _ j1.h)⟩
    have hm2 : ws.length + 3 < sizeLine := by simpa [Nat.add_assoc] using hm
    repeat refine go ?_
    refine ⟨by simp; omega, ?_⟩
    repeat refine go ?_
    refine ⟨_, Sub.refl _, q _ ⟨?_, ?_, ?_⟩ fun b o hb hbo => ?_⟩
    · rw [gun nhl]; exact k2.h
    · rw [gus]; simp
    · rw [gun nla.symm]; exact s2 _ _ (s1 _ _ j2.h)
    · have hbl : b ≠ l := fun z => hb (by rw [z]; simp)
      rw [gun hbl]
      exact s2 _ _ (s1 _ _ (off1 _ b o hb hbo))
theorem w_rnextc {k t : Nat} {ws : List Nat} {Q : VG} {E : XG} (H : RdAt g h l a S ([], t :: ws)) (hk : 1 ≤ k) (q : ∀ g', Sub g g' → Q (nV t) g') : Gam kl bsP defs k 80 [.ref h] g Q E :=
  w_rnext H hk fun g' s => q g' s
theorem w_rpass {k t : Nat} {ws : List Nat} {Q : VG} {E : XG} (H : RdAt g h l a S ([], t :: ws)) (hk : 1 ≤ k) (q : ∀ g', RdAt g' h l a S ([], ws) → OffL [h, l] g g' → Q .non g') : Gam kl bsP defs k 81 [.ref h] g Q E := by
  obtain ⟨k, rfl⟩ : ∃ j, k = j + 1 := ⟨k - 1, by omega⟩
  refine gam_of d81.h rfl ?_
  show b_Reader_passed _ _ [some (.ref h)] _
  unfold b_Reader_passed
  haveI i1 : At g h _ := ⟨H.h⟩
  haveI i2 : At g l _ := ⟨H.l⟩
  repeat refine go ?_
  refine ⟨l, ((t :: ws).reverse).map nV, nV t, rfl, H.l, by simp, ?_⟩
  have ed : (((t :: ws).reverse).map nV).dropLast = ws.reverse.map nV := by simp
  rw [ed]
  repeat refine go ?_
  have nhl : h ≠ l := fun z => by have := H.h; rw [z, H.l] at this; cases this
  have nla : l ≠ a := fun z => by have := H.l; rw [z, H.s] at this; cases this
  refine ⟨_, Sub.refl _, q _ ⟨?_, ?_, ?_⟩ fun b o hb hbo => ?_⟩
  · rw [gun nhl]; exact H.h
  · rw [gus]
  · rw [gun nla.symm]; exact H.s
  · rw [gun (fun z => hb (by rw [z]; simp))]; exact hbo
theorem w_rnsig (wf : WF S) {k : Nat} {Q : VG} {E : XG} (H : RdAt g h l a S F) (v : Vd S F) (hm : ms S F < 1000000) (hk : 4 ≤ k) (q : ∀ g', OffL [h, l] g g' → Q (.str (strT ((fl S F).take 1))) g') : Gam kl bsP defs k 83 [.ref h] g Q E := by
  obtain ⟨k, rfl⟩ : ∃ j, k = j + 1 := ⟨k - 1, by omega⟩
  refine gam_of d83.h rfl ?_
  show b_Reader_next_sign _ _ [some (.ref h)] _
  unfold b_Reader_next_sign
  have hs : sizeLine = 16777216 := rfl
  refine go ?_
  refine ⟨fun m s g' => ∃ F1, m = ms S F1 ∧ fl S F1 = fl S F ∧ Vd S F1 ∧ ms S F1 < 1000000 ∧ RdAt g' h l a S F1 ∧ OffL [h, l] g g' ∧ s = [some (.ref h)], ⟨_, F, rfl, rfl, v, hm, H, OffL.refl, rfl⟩, ?_⟩
  rintro m s g' ⟨⟨r1, ws1⟩, rfl, o1, v1, m1, H1, f1, rfl⟩
  haveI i1 : At g' h _ := ⟨H1.h⟩
  haveI i2 : At g' l _ := ⟨H1.l⟩
  have r8 := v1.r8
  repeat refine go ?_
  cases r1 with
  | cons c1 r1 =>
    refine ifDn (fun z => by have := strT_e.mp z; cases this) ?_
    repeat refine go ?_
    refine ⟨by rw [strT_len]; show (c1 :: r1).length ≤ _; have : (c1 :: r1).length ≤ 8 := r8; omega, ?_⟩
    rw [show (1 : Int) = ((1 : Nat) : Int) from rfl, cutS_to, tl_strT]
    refine ⟨_, Sub.refl _, ?_⟩
    have q1 := q _ f1
    rw [← o1] at q1
    exact q1
  | nil =>
    refine ifD (by exact strT_nil) ?_
    repeat refine go ?_
    refine ⟨by simp, fun p fp => ?_⟩
    have np : h ≠ p := fun z => by have := fp.h; rw [← z, H1.h] at this; cases this
    have nl : l ≠ p := fun z => by have := fp.h; rw [← z, H1.l] at this; cases this
    have s3 : Sub g' (gu g' p (.lst [])) := Sub.new fp.h
    haveI i3 : At (gu g' p (.lst [])) h _ := ⟨(gun np).trans H1.h⟩
    haveI i4 : At (gu g' p (.lst [])) l _ := ⟨(gun nl).trans H1.l⟩
    repeat refine go ?_
    refine ne_ll (At.h (a := l)) gus (ints_ok _) rfl ?_
    rw [eqL_rev]
    cases ws1 with
    | nil =>
      rw [decide_eq_true (show (([], []) : Stt).2 = [] from rfl)]
      repeat refine go ?_
      refine ⟨by rw [strT_len]; show 0 ≤ _; omega, ?_⟩
      rw [show (1 : Int) = ((1 : Nat) : Int) from rfl, cutS_to, tl_strT]
      refine ⟨_, Sub.refl _, ?_⟩
      have q1 := q _ (f1.trans fun b o _ hb => s3 b o hb)
      rw [← o1] at q1
      exact q1
    | cons t ws1 =>
      rw [decide_eq_false (show ¬ t :: ws1 = [] by simp)]
      obtain ⟨F3, h1⟩ := v1.opn wf
      repeat refine go ?_
      have hl := v1.len wf
      refine w_ropen (H1.sub s3) h1 v1 (by show (t :: ws1).length + 2 < _; omega) (by omega) fun g2 H2 o2 => ?_
      exact ⟨_, _, h1.ms wf v1, Sub.refl _, _, rfl, h1.fl.trans o1, h1.vd v1, by have := h1.ms wf v1; omega, H2, (f1.trans fun b o _ hb => s3 b o hb).trans o2, rfl⟩
end
end SW
end

section
set_option Elab.async false
set_option linter.all false
set_option maxRecDepth 100000
set_option maxHeartbeats 4000000
/-! Held together: the small deeds. -/
namespace SW
open PySem L2
set_option synthInstance.maxHeartbeats 200000
set_option synthInstance.maxSize 100000
theorem its_ok {is : List (Nat ⊕ List Nat)} (h : ∀ y, Sum.inr y ∈ is → y.length ≤ 8 ∧ plainB (strT y) = true) : (is.map itV).all okD = true := by
  rw [List.all_map, List.all_eq_true]
  intro x hx
  cases x with
  | inl p => rfl
  | inr y => exact str_okD (h y hx).2
theorem ne_nil {kl : Addr → List V → Prop} {g : G} {QB : Bool → G → Prop} {p q : Addr} {xs : List V} (ok : xs.all okD = true) (h1 : g p = some (.lst xs)) (h2 : g q = some (.lst [])) (hq : QB (!decide (xs = [])) g) : cmpV kl .NotEq (.ref p) (.ref q) g QB := by
  refine ne_ll h1 h2 ok rfl ?_
  cases xs with
  | nil => rw [eqL_nn]; exact hq
  | cons x xs => rw [eqL_nil]; exact hq
theorem Sp.pl {S : Sh} {F G : Stt} {x : List (Nat ⊕ List Nat)} (h : Sp S F x G) : ∀ y, Sum.inr y ∈ x → y.length ≤ 8 ∧ plainB (strT y) = true := by
  induction h with
  | nil => exact fun _ h => (nomatch h)
  | piece h _ ih =>
    intro y hy
    rcases List.mem_cons.mp hy with e | hy
    · cases e
    · exact ih y hy
  | signs _ h8 pl h _ ih =>
    intro y hy
    rcases List.mem_cons.mp hy with e | hy
    · cases e; exact ⟨h8, pl⟩
    · exact ih y hy
theorem strC_e {c d : Nat} : (⟨#[c]⟩ : Str) = ⟨#[d]⟩ ↔ c = d := by
  constructor
  · intro h
    have := congrArg (fun s : Str => s.cps.toList) h
    simpa using this
  · rintro rfl; rfl
def nxt (F : Stt) : Nat := if F.1 = [] then F.2.headD 0 else 0
theorem nxt_ne {S : Sh} {F : Stt} (h : nxt F ≠ 0) : ∃ t ws, F = ([], t :: ws) ∧ nxt F = t := by
  obtain ⟨r, ws⟩ := F
  unfold nxt at h
  cases r with
  | cons c r => exact absurd rfl h
  | nil =>
    cases ws with
    | nil => exact absurd rfl h
    | cons t ws => exact ⟨t, ws, rfl, rfl⟩
section
variable {kl : Addr → List V → Prop} {defs : Nat → Option FDef} {g : G} {h l h2 l2 a : Addr} {S : Sh} {F F2 : Stt} [jd : JoD defs] [d78 : DefAt defs 78 d_Reader___init__] [d79 : DefAt defs 79 d_Reader_is_over] [d80 : DefAt defs 80 d_Reader_next_piece] [d81 : DefAt defs 81 d_Reader_passed] [d82 : DefAt defs 82 d_Reader_opened] [d83 : DefAt defs 83 d_Reader_next_sign] [d84 : DefAt defs 84 d_Reader_gone] [d85 : DefAt defs 85 d_in_common] [d86 : DefAt defs 86 d_opened_one] [d87 : DefAt defs 87 d_with_signs]
theorem w_common {k : Nat} {Q : VG} {E : XG} {x y : List Nat} (hx : x.length ≤ 8) (hy : y.length ≤ 8) (hk : 1 ≤ k) (q : ∀ n, n ≤ x.length → n ≤ y.length → x.take n = y.take n → (n < x.length → n < y.length → x[n]? ≠ y[n]?) → Q (nV n) g) : Gam kl bsP defs k 85 [.str (strT x), .str (strT y)] g Q E := by
  obtain ⟨k, rfl⟩ : ∃ j, k = j + 1 := ⟨k - 1, by omega⟩
  refine gam_of d85.h rfl ?_
  show b_in_common _ _ [some (.str (strT x)), some (.str (strT y)), none] _
  unfold b_in_common
  have hs : sizeLine = 16777216 := rfl
  have lx := strT_len x
  have ly := strT_len y
  repeat refine go ?_
  refine ⟨fun m s g' => ∃ n, m = x.length - n ∧ n ≤ x.length ∧ n ≤ y.length ∧ x.take n = y.take n ∧ g' = g ∧ s = [some (.str (strT x)), some (.str (strT y)), some (.int n)], ⟨_, 0, rfl, by omega, by omega, rfl, rfl, rfl⟩, ?_⟩
  rintro m s g' ⟨n, rfl, n1, n2, et, rfl, rfl⟩
  repeat refine go ?_
  refine ⟨by omega, ?_⟩
  repeat refine go ?_
  by_cases c1 : n < x.length
  · refine ifD (by omega) ?_
    repeat refine go ?_
    refine ⟨by omega, ?_⟩
    repeat refine go ?_
    by_cases c2 : n < y.length
    · refine ifD (by omega) ?_
      repeat refine go ?_
      refine ⟨(n : Int), x[n], rfl, by show (strT x).length ≤ _; omega, by rw [tl_strT]; exact atI_nat c1, ?_⟩
      repeat refine go ?_
      refine ⟨(n : Int), y[n], rfl, by show (strT y).length ≤ _; omega, by rw [tl_strT]; exact atI_nat c2, ?_⟩
      repeat refine go ?_
      by_cases c3 : x[n] = y[n]
      · refine ifD (strC_e.mpr c3) ?_
        repeat refine go ?_
        refine ⟨x.length - (n + 1), _, by omega, Sub.refl _, n + 1, rfl, by omega, by omega, ?_, rfl, rfl⟩
        rw [List.take_succ, List.take_succ, et, List.getElem?_eq_getElem c1, List.getElem?_eq_getElem c2, c3]
      · refine ifDn (fun z => c3 (strC_e.mp z)) ?_
        repeat refine go ?_
        refine ⟨_, Sub.refl _, q n n1 n2 et fun _ _ => ?_⟩
        rw [List.getElem?_eq_getElem c1, List.getElem?_eq_getElem c2]
        intro z
        exact c3 (Option.some.inj z)
    · refine ifDn (by omega) ?_
      repeat refine go ?_
      exact ⟨_, Sub.refl _, q n n1 n2 et fun _ z => absurd z c2⟩
  · refine ifDn (by omega) ?_
    repeat refine go ?_
    exact ⟨_, Sub.refl _, q n n1 n2 et fun z _ => absurd z c1⟩
theorem w_withs {k : Nat} {Q : VG} {E : XG} {li : Addr} {is : List (Nat ⊕ List Nat)} {x : List Nat} (hl : g li = some (.lst (is.map itV))) (hi : is.length < 1000000) (hit : ∀ y, Sum.inr y ∈ is → y.length ≤ 8 ∧ plainB (strT y) = true) (hx : x.length ≤ 8) (hk : 1 ≤ k)
    (q : ∀ g' r is', Sub g g' → g r = none → g' r = some (.lst (is'.map itV)) → (is' = is ++ [.inr x] ∨ ∃ pre y, is = pre ++ [.inr y] ∧ is' = pre ++ [.inr (y ++ x)] ∧ (y ++ x).length ≤ 8) → Q (.ref r) g') : Gam kl bsP defs k 87 [.ref li, .str (strT x)] g Q E := by
  obtain ⟨k, rfl⟩ : ∃ j, k = j + 1 := ⟨k - 1, by omega⟩
  refine gam_of d87.h rfl ?_
  show b_with_signs _ _ [some (.ref li), some (.str (strT x)), none] _
  unfold b_with_signs
  have hs : sizeLine = 16777216 := rfl
  haveI i1 : At g li _ := ⟨hl⟩
  repeat refine go ?_
  refine ⟨li, _, rfl, .inl (.inl hl), fun r hr => ?_⟩
  have s1 : Sub g (gu g r (.lst (is.map itV))) := Sub.new hr
  haveI i2 : At (gu g r (.lst (is.map itV))) r (.lst (is.map itV)) := ⟨gus⟩
  have lm : (is.map itV).length = is.length := List.length_map ..
  repeat refine go ?_
  refine ⟨by simp, fun p fp => ?_⟩
  have nrp : r ≠ p := fun z => by have := fp.h; rw [← z, gus] at this; cases this
  refine ne_nil (its_ok hit) (At.h (a := r)) gus ?_
  have s2 : Sub g (gu (gu g r (.lst (is.map itV))) p (.lst [])) := s1.trans (Sub.new fp.h)
  haveI i3 : At (gu (gu g r (.lst (is.map itV))) p (.lst [])) r (.lst (is.map itV)) := ⟨(gun nrp).trans gus⟩
  generalize hg3 : gu (gu g r (.lst (is.map itV))) p (.lst []) = g3 at *
  have sub3 : ∀ xs, Sub g (gu g3 r (.lst xs)) := fun xs b o hb => by
    have hbr : b ≠ r := fun z => by rw [z, hr] at hb; cases hb
    rw [gun hbr]; exact s2 _ _ hb
  have app : (is.map itV) ++ [V.str (strT x)] = (is ++ [Sum.inr x]).map itV := by rw [List.map_append]; rfl
  rcases List.eq_nil_or_concat is with rfl | ⟨pre, it, e⟩
  · rw [decide_eq_true (show ([] : List (Nat ⊕ List Nat)).map itV = [] from rfl)]
    repeat refine go ?_
    refine ⟨by rw [lm]; omega, ?_⟩
    repeat refine go ?_
    refine ⟨_, Sub.refl _, q _ r _ (sub3 _) hr ?_ (.inl rfl)⟩
    rw [gus]; rfl
  · rw [List.concat_eq_append] at e
    subst e
    rw [decide_eq_false (show ¬ (pre ++ [it]).map itV = [] by simp)]
    have ea : atI ((pre ++ [it]).map itV) (-1) = some (itV it) := by rw [List.map_append]; exact atI_last
    repeat refine go ?_
    refine ⟨_, ea, ?_⟩
    cases it with
    | inl u =>
      refine go ?_
      show biV _ .isstr [.int u] _ _
      repeat refine go ?_
      refine ⟨by rw [lm]; omega, ?_⟩
      repeat refine go ?_
      refine ⟨_, Sub.refl _, q _ r _ (sub3 _) hr ?_ (.inl rfl)⟩
      rw [gus, ← app]
    | inr y =>
      have h8 := (hit y (by simp)).1
      refine go ?_
      show biV _ .isstr [.str (strT y)] _ _
      have ly := strT_len y
      have lx := strT_len x
      repeat refine go ?_
      refine ⟨_, ea, ?_⟩
      refine go ?_
      show biV _ .len [.str (strT y)] _ _
      repeat refine go ?_
      refine ⟨by omega, ?_⟩
      repeat refine go ?_
      refine ⟨by omega, ?_⟩
      repeat refine go ?_
      by_cases c : y.length + x.length ≤ 8
      · refine ifD (by omega) ?_
        repeat refine go ?_
        refine ⟨_, ea, ?_⟩
        refine go ?_
        show binV _ .Add (.str (strT y)) _ _ _
        repeat refine go ?_
        refine ⟨by omega, ?_⟩
        rw [← strT_app]
        repeat refine go ?_
        refine ⟨r, rfl, .inl ⟨_, -1, pre.length, rfl, i3.h, ?_, ?_⟩⟩
        · unfold ixN
          rw [List.length_map, List.length_append, List.length_singleton, if_neg (by omega), if_pos (by omega)]
          congr 1
          omega
        · have es : ((pre ++ [Sum.inr y]).map itV).set pre.length (.str (strT (y ++ x))) = (pre ++ [Sum.inr (y ++ x)]).map itV := by
            rw [List.map_append, List.map_append, List.set_append_right _ _ (by rw [List.length_map]; exact Nat.le_refl _), List.length_map, Nat.sub_self]
            rfl
          rw [es]
          repeat refine go ?_
          exact ⟨_, Sub.refl _, q _ r _ (sub3 _) hr gus (.inr ⟨pre, y, rfl, rfl, by rw [List.length_append]; exact c⟩)⟩
      · refine ifDn (by omega) ?_
        repeat refine go ?_
        refine ⟨by rw [lm]; omega, ?_⟩
        repeat refine go ?_
        refine ⟨_, Sub.refl _, q _ r _ (sub3 _) hr ?_ (.inl rfl)⟩
        rw [gus, ← app]
theorem w_open1 (wf : WF S) {k : Nat} {Q : VG} {E : XG} (H : RdAt g h l a S F) (H2 : RdAt g h2 l2 a S F2) (v1 : Vd S F) (v2 : Vd S F2) (m1 : ms S F < 1000000) (m2 : ms S F2 < 1000000) (hk : 5 ≤ k)
    (q0 : nxt F = 0 → nxt F2 = 0 → ∀ g', Sub g g' → Q (.bl false) g')
    (q1 : ∀ G g' g1, Opn S F G → Sub g g1 → RdAt g' h l a S G → OffL [h, l] g1 g' → Q (.bl true) g')
    (q2 : ∀ G g' g1, Opn S F2 G → Sub g g1 → RdAt g' h2 l2 a S G → OffL [h2, l2] g1 g' → Q (.bl true) g') : Gam kl bsP defs k 86 [.ref a, .ref h, .ref h2] g Q E := by
  obtain ⟨k, rfl⟩ : ∃ j, k = j + 1 := ⟨k - 1, by omega⟩
  refine gam_of d86.h rfl ?_
  show b_opened_one _ _ [some (.ref a), some (.ref h), some (.ref h2), none, none] _
  unfold b_opened_one
  have hs : sizeLine = 16777216 := rfl
  haveI i1 : At g h _ := ⟨H.h⟩
  haveI i2 : At g h2 _ := ⟨H2.h⟩
  repeat refine go ?_
  refine w_rnext (k := k) H (by omega) fun g1 s1 => ?_
  have n1e : (if F.1 = [] then F.2.headD 0 else 0) = nxt F := rfl
  have n2e : (if F2.1 = [] then F2.2.headD 0 else 0) = nxt F2 := rfl
  rw [n1e]
  have K1 := H.sub s1
  have K2 := H2.sub s1
  haveI i3 : At g1 h _ := ⟨K1.h⟩
  haveI i4 : At g1 h2 _ := ⟨K2.h⟩
  repeat refine go ?_
  refine w_rnext (k := k) K2 (by omega) fun g2 s2 => ?_
  rw [n2e]
  have J1 := K1.sub s2
  have J2 := K2.sub s2
  have s12 := s1.trans s2
  haveI i5 : At g2 h _ := ⟨J1.h⟩
  haveI i6 : At g2 h2 _ := ⟨J2.h⟩
  haveI i7 : At g2 a _ := ⟨J1.s⟩
  have op1 : nxt F ≠ 0 → ∀ (Q1 : VG) (E1 : XG), (∀ G g3, Opn S F G → RdAt g3 h l a S G → OffL [h, l] g2 g3 → Q1 .non g3) → Gam kl bsP defs k 82 [.ref h] g2 Q1 E1 := by
    intro hn Q1 E1 hq
    obtain ⟨t, ws, rfl, _⟩ := nxt_ne (S := S) hn
    obtain ⟨G, o⟩ := v1.opn wf
    have hl := v1.len wf
    exact w_ropen (k := k) J1 o v1 (by show (t :: ws).length + 2 < _; omega) (by omega) fun g3 H3 o3 => hq G g3 o H3 o3
  have op2 : nxt F2 ≠ 0 → ∀ (Q1 : VG) (E1 : XG), (∀ G g3, Opn S F2 G → RdAt g3 h2 l2 a S G → OffL [h2, l2] g2 g3 → Q1 .non g3) → Gam kl bsP defs k 82 [.ref h2] g2 Q1 E1 := by
    intro hn Q1 E1 hq
    obtain ⟨t, ws, rfl, _⟩ := nxt_ne (S := S) hn
    obtain ⟨G, o⟩ := v2.opn wf
    have hl := v2.len wf
    exact w_ropen (k := k) J2 o v2 (by show (t :: ws).length + 2 < _; omega) (by omega) fun g3 H3 o3 => hq G g3 o H3 o3
  have le1 : nxt F ≤ S.length := by
    by_cases hn : nxt F = 0
    · omega
    · obtain ⟨t, ws, e, e2⟩ := nxt_ne (S := S) hn
      rw [e2]; exact (v1.ws t (by rw [e]; simp)).2
  have le2 : nxt F2 ≤ S.length := by
    by_cases hn : nxt F2 = 0
    · omega
    · obtain ⟨t, ws, e, e2⟩ := nxt_ne (S := S) hn
      rw [e2]; exact (v2.ws t (by rw [e]; simp)).2
  repeat refine go ?_
  by_cases c1 : nxt F = 0
  · refine ifD (by omega) ?_
    repeat refine go ?_
    by_cases c2 : nxt F2 = 0
    · refine ifD (by omega) ?_
      repeat refine go ?_
      exact ⟨_, Sub.refl _, q0 c1 c2 g2 s12⟩
    · refine ifDn (by omega) ?_
      repeat refine go ?_
      refine ifDn (by omega) ?_
      repeat refine go ?_
      refine ifNn (by omega) ?_
      repeat refine go ?_
      refine op2 c2 _ _ fun G g3 o H3 o3 => ?_
      repeat refine go ?_
      exact ⟨_, Sub.refl _, q2 G g3 g2 o s12 H3 o3⟩
  · refine ifDn (by omega) ?_
    repeat refine go ?_
    by_cases c2 : nxt F2 = 0
    · refine ifD (by omega) ?_
      repeat refine go ?_
      refine op1 c1 _ _ fun G g3 o H3 o3 => ?_
      repeat refine go ?_
      exact ⟨_, Sub.refl _, q1 G g3 g2 o s12 H3 o3⟩
    · refine ifDn (by omega) ?_
      repeat refine go ?_
      refine ifN (by omega) ?_
      repeat refine go ?_
      refine ⟨le1, ?_⟩
      repeat refine go ?_
      refine ⟨le2, ?_⟩
      repeat refine go ?_
      by_cases c3 : sgT S (nxt F2) ≤ sgT S (nxt F)
      · refine ifD (by omega) ?_
        repeat refine go ?_
        refine op1 c1 _ _ fun G g3 o H3 o3 => ?_
        repeat refine go ?_
        exact ⟨_, Sub.refl _, q1 G g3 g2 o s12 H3 o3⟩
      · refine ifDn (by omega) ?_
        repeat refine go ?_
        refine op2 c2 _ _ fun G g3 o H3 o3 => ?_
        repeat refine go ?_
        exact ⟨_, Sub.refl _, q2 G g3 g2 o s12 H3 o3⟩
end
end SW
end

section
set_option Elab.async false
set_option linter.all false
set_option maxRecDepth 100000
set_option maxHeartbeats 4000000
/-! Held together. -/
namespace SW
open PySem L2
set_option synthInstance.maxHeartbeats 200000
set_option synthInstance.maxSize 100000
structure HS (g0 g : G) (h l h2 l2 li a : Addr) (S : Sh) (F1 F2 : Stt) (is : List (Nat ⊕ List Nat)) : Prop where
  sub : Sub g0 g
  r1 : RdAt g h l a S F1
  r2 : RdAt g h2 l2 a S F2
  i : g li = some (.lst (is.map itV))
  n1 : g0 h = none
  n2 : g0 l = none
  n3 : g0 h2 = none
  n4 : g0 l2 = none
  n5 : g0 li = none
  d1 : h ≠ h2
  d2 : l ≠ l2
  d3 : li ≠ l
  d4 : li ≠ l2
variable {g0 g : G} {h l h2 l2 li a : Addr} {S : Sh} {F1 F2 : Stt} {is : List (Nat ⊕ List Nat)}
theorem HS.up {g' : G} (H : HS g0 g h l h2 l2 li a S F1 F2 is) (s : Sub g g') : HS g0 g' h l h2 l2 li a S F1 F2 is :=
  { H with sub := H.sub.trans s, r1 := H.r1.sub s, r2 := H.r2.sub s, i := s _ _ H.i }
theorem HS.off1 {g' : G} {G' : Stt} (H : HS g0 g h l h2 l2 li a S F1 F2 is) (r : RdAt g' h l a S G') (o : OffL [h, l] g g') : HS g0 g' h l h2 l2 li a S G' F2 is := by
  have e1 : h2 ≠ l := fun z => by have := H.r2.h; rw [z, H.r1.l] at this; cases this
  have e2 : l2 ≠ h := fun z => by have := H.r2.l; rw [z, H.r1.h] at this; cases this
  have e3 : a ≠ h := fun z => by have := H.r1.s; rw [z, H.r1.h] at this; cases this
  have e4 : a ≠ l := fun z => by have := H.r1.s; rw [z, H.r1.l] at this; cases this
  have e5 : li ≠ h := fun z => by have := H.i; rw [z, H.r1.h] at this; cases this
  refine { H with sub := o.sub H.sub ?_, r1 := r, r2 := H.r2.off o ?_ ?_ ?_, i := o _ _ ?_ H.i }
  · intro b hb
    rcases List.mem_cons.mp hb with rfl | hb
    · exact H.n1
    · rw [List.mem_singleton] at hb; rw [hb]; exact H.n2
  · simp [H.d1.symm, e1]
  · simp [H.d2.symm, e2]
  · simp [e3, e4]
  · simp [e5, H.d3]
theorem HS.swap (H : HS g0 g h l h2 l2 li a S F1 F2 is) : HS g0 g h2 l2 h l li a S F2 F1 is :=
  ⟨H.sub, H.r2, H.r1, H.i, H.n3, H.n4, H.n1, H.n2, H.n5, H.d1.symm, H.d2.symm, H.d4, H.d3⟩
theorem HS.off2 {g' : G} {G' : Stt} (H : HS g0 g h l h2 l2 li a S F1 F2 is) (r : RdAt g' h2 l2 a S G') (o : OffL [h2, l2] g g') : HS g0 g' h l h2 l2 li a S F1 G' is := (H.swap.off1 r o).swap
theorem HS.app {is' : List (Nat ⊕ List Nat)} (H : HS g0 g h l h2 l2 li a S F1 F2 is) : HS g0 (gu g li (.lst (is'.map itV))) h l h2 l2 li a S F1 F2 is' := by
  have e1 : h ≠ li := fun z => by have := H.r1.h; rw [z, H.i] at this; cases this
  have e2 : h2 ≠ li := fun z => by have := H.r2.h; rw [z, H.i] at this; cases this
  have e3 : a ≠ li := fun z => by have := H.r1.s; rw [z, H.i] at this; cases this
  refine { H with sub := fun b o hb => ?_, r1 := ⟨(gun e1).trans H.r1.h, (gun H.d3.symm).trans H.r1.l, (gun e3).trans H.r1.s⟩, r2 := ⟨(gun e2).trans H.r2.h, (gun H.d4.symm).trans H.r2.l, (gun e3).trans H.r1.s⟩, i := gus }
  have hb1 : b ≠ li := fun z => by rw [z, H.n5] at hb; cases hb
  rw [gun hb1]; exact H.sub _ _ hb
theorem HS.lst {g' : G} {r : Addr} {is' : List (Nat ⊕ List Nat)} (H : HS g0 g h l h2 l2 li a S F1 F2 is) (s : Sub g g') (f : g r = none) (e : g' r = some (.lst (is'.map itV))) : HS g0 g' h l h2 l2 r a S F1 F2 is' := by
  refine { H with sub := H.sub.trans s, r1 := H.r1.sub s, r2 := H.r2.sub s, i := e, n5 := ?_, d3 := fun z => ?_, d4 := fun z => ?_ }
  · cases hz : g0 r with
    | none => rfl
    | some o => have := H.sub _ _ hz; rw [f] at this; cases this
  · rw [z, H.r1.l] at f; cases f
  · rw [z, H.r2.l] at f; cases f
structure HP (S : Sh) (t u : Nat) (F1 F2 : Stt) (is : List (Nat ⊕ List Nat)) : Prop where
  s1 : ∃ A, Sp S (st0 t) is A ∧ Opens S A F1
  s2 : ∃ B, Sp S (st0 u) is B ∧ Opens S B F2
  v1 : Vd S F1
  v2 : Vd S F2
  len : is.length + ms S F1 + ms S F2 ≤ 220000
theorem HP.swap {t u : Nat} (P : HP S t u F1 F2 is) : HP S u t F2 F1 is := ⟨P.s2, P.s1, P.v2, P.v1, by have := P.len; omega⟩
theorem HP.open1 {t u : Nat} {G' : Stt} (wf : WF S) (P : HP S t u F1 F2 is) (o : Opn S F1 G') : HP S t u G' F2 is := by
  obtain ⟨A, a1, a2⟩ := P.s1
  have := o.ms wf P.v1
  have := P.len
  exact ⟨⟨A, a1, a2.snoc o⟩, P.s2, o.vd P.v1, P.v2, by omega⟩
theorem HP.open2 {t u : Nat} {G' : Stt} (wf : WF S) (P : HP S t u F1 F2 is) (o : Opn S F2 G') : HP S t u F1 G' is := (P.swap.open1 wf o).swap
theorem ms_pop {wf : WF S} {p : Nat} {ws : List Nat} (v : Vd S ([], p :: ws)) : ms S ([], ws) + 10 ≤ ms S ([], p :: ws) := by
  have hp := v.ws p (by simp)
  have := wf.lv1' p hp.1 hp.2
  unfold ms
  simp only [List.map_cons, List.sum_cons, List.length_nil]
  omega
theorem HP.piece {t u p : Nat} {w1 w2 : List Nat} (wf : WF S) (P : HP S t u ([], p :: w1) ([], p :: w2) is) : HP S t u ([], w1) ([], w2) (is ++ [.inl p]) := by
  obtain ⟨A, a1, a2⟩ := P.s1
  obtain ⟨B, b1, b2⟩ := P.s2
  have h1 := ms_pop (wf := wf) P.v1
  have h2 := ms_pop (wf := wf) P.v2
  have := P.len
  exact ⟨⟨_, a1.app (.piece a2 .nil), .refl⟩, ⟨_, b1.app (.piece b2 .nil), .refl⟩, P.v1.pop, P.v2.pop, by rw [List.length_append, List.length_singleton]; omega⟩
theorem plain_take {x : List Nat} {n : Nat} (h : plainB (strT x) = true) : plainB (strT (x.take n)) = true := by
  unfold plainB at *
  rw [tl_strT] at *
  rw [List.all_eq_true] at *
  exact fun c hc => h c (List.mem_of_mem_take hc)
theorem plain_app {x y : List Nat} (h : plainB (strT x) = true) (k : plainB (strT y) = true) : plainB (strT (x ++ y)) = true := by
  unfold plainB at *
  rw [tl_strT] at *
  rw [List.all_append, h, k]; rfl
theorem Sp.put {A F : Stt} {t : Nat} {x r ws : List Nat} {is is' : List (Nat ⊕ List Nat)} (h : Sp S (st0 t) is A) (o : Opens S A (x ++ r, ws)) (hx : x ≠ []) (h8 : x.length ≤ 8) (pl : plainB (strT x) = true)
    (c : is' = is ++ [.inr x] ∨ ∃ pre y, is = pre ++ [.inr y] ∧ is' = pre ++ [.inr (y ++ x)] ∧ (y ++ x).length ≤ 8) : Sp S (st0 t) is' (r, ws) := by
  have k := SpS.of o hx
  rcases c with rfl | ⟨pre, y, rfl, rfl, l8⟩
  · exact h.app (.signs hx h8 pl k .nil)
  · obtain ⟨G', g1, g2⟩ := h.split
    cases g2 with
    | signs y1 y8 ypl ys ynil =>
      cases ynil
      exact g1.app (.signs (by simp [hx]) l8 (plain_app ypl pl) (ys.app k) .nil)
theorem HP.put {t u : Nat} {x r1 r2 w1 w2 : List Nat} {is' : List (Nat ⊕ List Nat)} (P : HP S t u (x ++ r1, w1) (x ++ r2, w2) is) (hx : x ≠ [])
    (c : is' = is ++ [.inr x] ∨ ∃ pre y, is = pre ++ [.inr y] ∧ is' = pre ++ [.inr (y ++ x)] ∧ (y ++ x).length ≤ 8) : HP S t u (r1, w1) (r2, w2) is' := by
  obtain ⟨A, a1, a2⟩ := P.s1
  obtain ⟨B, b1, b2⟩ := P.s2
  have e8 : (x ++ r1).length ≤ 8 := P.v1.r8
  have h8 : x.length ≤ 8 := by rw [List.length_append] at e8; omega
  have pl : plainB (strT x) = true := by
    have := plain_take (n := x.length) P.v1.pl
    rwa [List.take_left] at this
  have vdd : ∀ {r ws : List Nat}, Vd S (x ++ r, ws) → Vd S (r, ws) := fun {r ws} v => (SpS.run x r ws).vd v
  have l1 : 1 ≤ x.length := by cases x with | nil => exact absurd rfl hx | cons c x => simp
  refine ⟨⟨_, a1.put (F := A) a2 hx h8 pl c, .refl⟩, ⟨_, b1.put (F := B) b2 hx h8 pl c, .refl⟩, vdd P.v1, vdd P.v2, ?_⟩
  have := P.len
  have ei : is'.length ≤ is.length + 1 := by
    rcases c with rfl | ⟨pre, y, rfl, rfl, l8⟩
    · simp
    · simp
  unfold ms at *
  simp only [List.length_append] at *
  omega
end SW
end

section
set_option Elab.async false
set_option linter.all false
set_option maxRecDepth 100000
set_option maxHeartbeats 4000000
/-! Held together, walked. -/
namespace SW
open PySem L2
set_option synthInstance.maxHeartbeats 200000
set_option synthInstance.maxSize 100000
inductive Told (S : Sh) (t u : Nat) (g : G) (tp : Addr) : Prop
  | alike {li : Addr} {is : List (Nat ⊕ List Nat)} (h : g tp = some (.tup [.str "alike", .ref li])) (i : g li = some (.lst (is.map itV))) (s1 : Sp S (st0 t) is ([], [])) (s2 : Sp S (st0 u) is ([], []))
  | apart {li : Addr} {is : List (Nat ⊕ List Nat)} {A B : Stt} {x y : List Nat} (h : g tp = some (.tup [.str "apart", .ref li, .str (strT x), .str (strT y)])) (i : g li = some (.lst (is.map itV))) (s1 : Sp S (st0 t) is A) (s2 : Sp S (st0 u) is B) (ex : (fl S A).take 1 = x) (ey : (fl S B).take 1 = y) (ne : x ≠ y)
theorem Vd.fl_ne {S : Sh} (wf : WF S) {F : Stt} (v : Vd S F) (h : F ≠ ([], [])) : fl S F ≠ [] := by
  obtain ⟨r, ws⟩ := F
  cases r with
  | cons c r => simp [fl]
  | nil =>
    cases ws with
    | nil => exact absurd rfl h
    | cons t ws =>
      have ht := v.ws t (by simp)
      have h1 := wf.sg1' t ht.1 ht.2
      have h2 := wf.len t ht.2
      intro z
      unfold fl at z
      simp at z
      rw [z.1] at h2
      simp at h2
      omega
def Pd (F1 F2 : Stt) : Prop := F1 = ([], []) ∨ F2 = ([], []) ∨ ∃ c d r r' w w', F1 = (c :: r, w) ∧ F2 = (d :: r', w') ∧ c ≠ d
theorem Pd.ne {S : Sh} (wf : WF S) {F1 F2 : Stt} (p : Pd F1 F2) (v1 : Vd S F1) (v2 : Vd S F2) (h : ¬ (F1 = ([], []) ∧ F2 = ([], []))) : (fl S F1).take 1 ≠ (fl S F2).take 1 := by
  have e0 : fl S ([], []) = [] := rfl
  have tk : ∀ l : List Nat, l ≠ [] → l.take 1 ≠ [] := fun l hl => by cases l with | nil => exact absurd rfl hl | cons c l => simp
  rcases p with rfl | rfl | ⟨c, d, r, r', w, w', rfl, rfl, hcd⟩
  · have := v2.fl_ne wf (fun z => h ⟨rfl, z⟩)
    rw [e0]
    exact fun z => tk _ this z.symm
  · have := v1.fl_ne wf (fun z => h ⟨z, rfl⟩)
    rw [e0]
    exact fun z => tk _ this z
  · unfold fl
    simp [hcd]
def b_hrest : TSt := sSeq (sIf (tAnd (tVal (eMt [(1, 61), (2, 79)] (eV 4) lNil)) (tVal (eMt [(1, 61), (2, 79)] (eV 5) lNil))) (sSeq (sRet (eTup (lCons (eC (.str "alike")) (lCons (eV 6) lNil)))) sNext) sNext) (sSeq (sRet (eTup (lCons (eC (.str "apart")) (lCons (eV 6) (lCons (eMt [(2, 83)] (eV 4) lNil) (lCons (eMt [(2, 83)] (eV 5) lNil) lNil)))))) sNext)
def b_hbody : TSt := sSeq (sIf (tAnd (tBl (eCmp .NotEq (eMt [(2, 80)] (eV 4) lNil) (eC (.int 0)))) (tBl (eCmp .Eq (eMt [(2, 80)] (eV 4) lNil) (eMt [(2, 80)] (eV 5) lNil)))) (sSeq (sDrop (eBm .append (eV 6) (lCons (eMt [(2, 80)] (eV 4) lNil) lNil))) (sSeq (sDrop (eMt [(2, 81)] (eV 4) lNil)) (sSeq (sDrop (eMt [(2, 81)] (eV 5) lNil)) sNext))) (sSeq (sIf (tNot (tVal (eFn 86 (lCons (eV 0) (lCons (eV 4) (lCons (eV 5) lNil)))))) (sSeq (sAsg (eFn 85 (lCons (eAt (eV 4) 12) (lCons (eAt (eV 5) 12) lNil))) (gN 7)) (sSeq (sIf (tBl (eCmp .Eq (eV 7) (eC (.int 0)))) (sSeq sBrk sNext) sNext) (sSeq (sAsg (eFn 87 (lCons (eV 6) (lCons (eSl (eAt (eV 4) 12) oNone (oSome (eV 7))) lNil))) (gN 6)) (sSeq (sDrop (eMt [(2, 84)] (eV 4) (lCons (eV 7) lNil))) (sSeq (sDrop (eMt [(2, 84)] (eV 5) (lCons (eV 7) lNil))) sNext))))) sNext) sNext)) sNext
theorem b_held_eq : b_held_together = sSeq (sAsg (eLst (lCons (eMt [(0, 14)] (eV 0) (lCons (eV 1) lNil)) (lCons (eMt [(0, 14)] (eV 0) (lCons (eV 2) lNil)) lNil))) (gN 3)) (sSeq (sIf (tAnd (tBl (eCmp .NotEq (eV 1) (eV 2))) (tBl (eCmp .Gt (eBi .max (lCons (eV 3) lNil)) (eC (.int 10000))))) (sSeq (sRaise 5) sNext) sNext) (sSeq (sAsg (eMk 2 78 (lCons (eV 0) (lCons (eV 1) lNil))) (gN 4)) (sSeq (sAsg (eMk 2 78 (lCons (eV 0) (lCons (eV 2) lNil))) (gN 5)) (sSeq (sAsg (eLst lNil) (gN 6)) (sSeq (sWhile (tAnd (tNot (tVal (eMt [(1, 61), (2, 79)] (eV 4) lNil))) (tNot (tVal (eMt [(1, 61), (2, 79)] (eV 5) lNil)))) b_hbody) b_hrest))))) := rfl
section
variable {kl : Addr → List V → Prop} {defs : Nat → Option FDef} {g0 g : G} {h l h2 l2 li a : Addr} {S : Sh} {F1 F2 : Stt} {is : List (Nat ⊕ List Nat)} [jd : JoD defs] [d78 : DefAt defs 78 d_Reader___init__] [d79 : DefAt defs 79 d_Reader_is_over] [d80 : DefAt defs 80 d_Reader_next_piece] [d81 : DefAt defs 81 d_Reader_passed] [d82 : DefAt defs 82 d_Reader_opened] [d83 : DefAt defs 83 d_Reader_next_sign] [d84 : DefAt defs 84 d_Reader_gone] [d85 : DefAt defs 85 d_in_common] [d86 : DefAt defs 86 d_opened_one] [d87 : DefAt defs 87 d_with_signs] [d88 : DefAt defs 88 d_held_together]
theorem h_rest (wf : WF S) {k t u : Nat} {Q : VG} {er : Nat → L2.St → G → Prop} {x0 x1 x2 v3 v7 : Option V} (H : HS g0 g h l h2 l2 li a S F1 F2 is) (P : HP S t u F1 F2 is) (pd : Pd F1 F2) (hk : 6 ≤ k) (q : ∀ g' tp, Sub g0 g' → Told S t u g' tp → Q (.ref tp) g') :
    b_hrest ⟨kl, Gam kl bsP defs k, er⟩ ⟨fun x g' => ∃ g'', Sub g'' g' ∧ Q V.non g'', fun v g' => ∃ g'', Sub g'' g' ∧ Q v g'', fun _ _ => False, fun _ _ => False⟩ [x0, x1, x2, v3, some (.ref h), some (.ref h2), some (.ref li), v7] g := by
  unfold b_hrest
  have hs : sizeLine = 16777216 := rfl
  have hlen := P.len
  haveI i1 : At g h _ := ⟨H.r1.h⟩
  repeat refine go ?_
  refine w_rover (k := k) H.r1 (by omega) fun g1 s1 => ?_
  have H1 := H.up s1
  haveI i2 : At g1 h2 _ := ⟨H1.r2.h⟩
  haveI i3 : At g1 h _ := ⟨H1.r1.h⟩
  have apart : ∀ {g : G}, HS g0 g h l h2 l2 li a S F1 F2 is → ¬ (F1 = ([], []) ∧ F2 = ([], [])) → (sSeq (sRet (eTup (lCons (eC (.str "apart")) (lCons (eV 6) (lCons (eMt [(2, 83)] (eV 4) lNil) (lCons (eMt [(2, 83)] (eV 5) lNil) lNil)))))) sNext) ⟨kl, Gam kl bsP defs k, er⟩ ⟨fun x g' => ∃ g'', Sub g'' g' ∧ Q V.non g'', fun v g' => ∃ g'', Sub g'' g' ∧ Q v g'', fun _ _ => False, fun _ _ => False⟩ [x0, x1, x2, v3, some (.ref h), some (.ref h2), some (.ref li), v7] g := by
    intro g H nb
    haveI i1 : At g h _ := ⟨H.r1.h⟩
    repeat refine go ?_
    refine w_rnsig (k := k) wf H.r1 P.v1 (by omega) (by omega) fun g1 o1 => ?_
    have e1 : h2 ≠ l := fun z => by have := H.r2.h; rw [z, H.r1.l] at this; cases this
    have e2 : l2 ≠ h := fun z => by have := H.r2.l; rw [z, H.r1.h] at this; cases this
    have e3 : a ≠ h := fun z => by have := H.r1.s; rw [z, H.r1.h] at this; cases this
    have e4 : a ≠ l := fun z => by have := H.r1.s; rw [z, H.r1.l] at this; cases this
    have e5 : li ≠ h := fun z => by have := H.i; rw [z, H.r1.h] at this; cases this
    have e6 : li ≠ h2 := fun z => by have := H.i; rw [z, H.r2.h] at this; cases this
    have r2 := H.r2.off o1 (by simp [H.d1.symm, e1]) (by simp [H.d2.symm, e2]) (by simp [e3, e4])
    haveI i2 : At g1 h2 _ := ⟨r2.h⟩
    have gi1 := o1 li _ (by simp [e5, H.d3]) H.i
    have sb1 : Sub g0 g1 := o1.sub H.sub (by
      intro b hb
      rcases List.mem_cons.mp hb with rfl | hb
      · exact H.n1
      · rw [List.mem_singleton] at hb; rw [hb]; exact H.n2)
    repeat refine go ?_
    refine w_rnsig (k := k) wf r2 P.v2 (by omega) (by omega) fun g2 o2 => ?_
    have gi2 := o2 li _ (by simp [e6, H.d4]) gi1
    have sb2 : Sub g0 g2 := o2.sub sb1 (by
      intro b hb
      rcases List.mem_cons.mp hb with rfl | hb
      · exact H.n3
      · rw [List.mem_singleton] at hb; rw [hb]; exact H.n4)
    repeat refine go ?_
    refine ⟨by simp [sizeLine], fun p fp => ?_⟩
    have s3 := Sub.new (o := .tup [.str "apart", .ref li, .str (strT ((fl S F1).take 1)), .str (strT ((fl S F2).take 1))]) fp.h
    obtain ⟨A, a1, a2⟩ := P.s1
    obtain ⟨B, b1, b2⟩ := P.s2
    exact ⟨_, Sub.refl _, q _ p (sb2.trans s3) (.apart gus (s3 _ _ gi2) a1 b1 (by rw [← a2.fl]) (by rw [← b2.fl]) (pd.ne wf P.v1 P.v2 nb))⟩
  repeat refine go ?_
  by_cases c1 : F1 = ([], [])
  · rw [decide_eq_true c1]
    repeat refine go ?_
    refine w_rover (k := k) H1.r2 (by omega) fun g2 s2 => ?_
    have H2 := H1.up s2
    repeat refine go ?_
    by_cases c2 : F2 = ([], [])
    · rw [decide_eq_true c2]
      repeat refine go ?_
      refine ⟨by simp [sizeLine], fun p fp => ?_⟩
      have s3 := Sub.new (o := .tup [.str "alike", .ref li]) fp.h
      obtain ⟨A, a1, a2⟩ := P.s1
      obtain ⟨B, b1, b2⟩ := P.s2
      have ea := a2.over c1
      have eb := b2.over c2
      subst ea eb
      exact ⟨_, Sub.refl _, q _ p (H2.sub.trans s3) (.alike gus (s3 _ _ H2.i) a1 b1)⟩
    · rw [decide_eq_false c2]
      refine go ?_
      exact apart H2 fun z => c2 z.2
  · rw [decide_eq_false c1]
    refine go ?_
    exact apart H1 fun z => c1 z.1
theorem nxt_z {F : Stt} (v : Vd S F) (h : nxt F = 0) (n : F ≠ ([], [])) : ∃ c r w, F = (c :: r, w) := by
  obtain ⟨r, ws⟩ := F
  cases r with
  | cons c r => exact ⟨c, r, ws, rfl⟩
  | nil =>
    cases ws with
    | nil => exact absurd rfl n
    | cons t ws =>
      have := (v.ws t (by simp)).1
      have e : t = 0 := h
      omega
theorem h_body (wf : WF S) {k t u : Nat} {er : Nat → L2.St → G → Prop} {nx : L2.St → G → Prop} {rt : V → G → Prop} {bk ct : L2.St → G → Prop} {x1 x2 v3 v7 : Option V} (H : HS g0 g h l h2 l2 li a S F1 F2 is) (P : HP S t u F1 F2 is) (n1 : F1 ≠ ([], [])) (n2 : F2 ≠ ([], [])) (hk : 6 ≤ k)
    (qn : ∀ g' li' F1' F2' is' v7', HS g0 g' h l h2 l2 li' a S F1' F2' is' → HP S t u F1' F2' is' → ms S F1' + ms S F2' < ms S F1 + ms S F2 → nx [some (.ref a), x1, x2, v3, some (.ref h), some (.ref h2), some (.ref li'), v7'] g')
    (qb : ∀ g' v7', HS g0 g' h l h2 l2 li a S F1 F2 is → Pd F1 F2 → bk [some (.ref a), x1, x2, v3, some (.ref h), some (.ref h2), some (.ref li), v7'] g') :
    b_hbody ⟨kl, Gam kl bsP defs k, er⟩ ⟨nx, rt, bk, ct⟩ [some (.ref a), x1, x2, v3, some (.ref h), some (.ref h2), some (.ref li), v7] g := by
  unfold b_hbody
  have hs : sizeLine = 16777216 := rfl
  have hlen := P.len
  have n1e : (if F1.1 = [] then F1.2.headD 0 else 0) = nxt F1 := rfl
  have n2e : (if F2.1 = [] then F2.2.headD 0 else 0) = nxt F2 := rfl
  have els : ∀ {g : G}, HS g0 g h l h2 l2 li a S F1 F2 is → (sSeq (sIf (tNot (tVal (eFn 86 (lCons (eV 0) (lCons (eV 4) (lCons (eV 5) lNil)))))) (sSeq (sAsg (eFn 85 (lCons (eAt (eV 4) 12) (lCons (eAt (eV 5) 12) lNil))) (gN 7)) (sSeq (sIf (tBl (eCmp .Eq (eV 7) (eC (.int 0)))) (sSeq sBrk sNext) sNext) (sSeq (sAsg (eFn 87 (lCons (eV 6) (lCons (eSl (eAt (eV 4) 12) oNone (oSome (eV 7))) lNil))) (gN 6)) (sSeq (sDrop (eMt [(2, 84)] (eV 4) (lCons (eV 7) lNil))) (sSeq (sDrop (eMt [(2, 84)] (eV 5) (lCons (eV 7) lNil))) sNext))))) sNext) sNext) ⟨kl, Gam kl bsP defs k, er⟩ ⟨sNext ⟨kl, Gam kl bsP defs k, er⟩ ⟨nx, rt, bk, ct⟩, rt, bk, ct⟩ [some (.ref a), x1, x2, v3, some (.ref h), some (.ref h2), some (.ref li), v7] g := by
    intro g H
    haveI i1 : At g h _ := ⟨H.r1.h⟩
    haveI i2 : At g h2 _ := ⟨H.r2.h⟩
    repeat refine go ?_
    refine w_open1 (k := k) wf H.r1 H.r2 P.v1 P.v2 (by omega) (by omega) (by omega) (fun z1 z2 g1 s1 => ?_) (fun G g3 g2 o s1 R o3 => ?_) (fun G g3 g2 o s1 R o3 => ?_)
    · obtain ⟨c, r1, w1, e1⟩ := nxt_z P.v1 z1 n1
      obtain ⟨d, r2, w2, e2⟩ := nxt_z P.v2 z2 n2
      have H1 := H.up s1
      have e81 : F1.1.length ≤ 8 := P.v1.r8
      have e82 : F2.1.length ≤ 8 := P.v2.r8
      haveI j1 : At g1 h _ := ⟨H1.r1.h⟩
      haveI j2 : At g1 h2 _ := ⟨H1.r2.h⟩
      repeat refine go ?_
      refine w_common (k := k) e81 e82 (by omega) fun n q1 q2 q3 q4 => ?_
      repeat refine go ?_
      by_cases c0 : n = 0
      · subst c0
        refine ifD (by omega) ?_
        repeat refine go ?_
        refine qb _ _ H1 (.inr (.inr ⟨c, d, r1, r2, w1, w2, e1, e2, ?_⟩))
        have := q4 (by rw [e1]; simp) (by rw [e2]; simp)
        rw [e1, e2] at this
        intro z
        exact this (by rw [z]; rfl)
      · refine ifDn (by omega) ?_
        repeat refine go ?_
        refine ⟨by rw [strT_len]; omega, ?_⟩
        rw [cutS_to, tl_strT]
        show lNil _ _ _ _
        repeat refine go ?_
        obtain ⟨A, a1, a2⟩ := P.s1
        refine w_withs (k := k) (x := F1.1.take n) H1.i (by omega) a1.pl (by rw [List.length_take]; omega) (by omega) fun g2 r is' s2 fr gr hc => ?_
        have H2 := H1.lst s2 fr gr
        haveI j3 : At g2 h _ := ⟨H2.r1.h⟩
        repeat refine go ?_
        refine w_rgone (k := k) (m := n) H2.r1 e81 (by omega) fun g3 R3 o3 => ?_
        have H3 := H2.off1 R3 o3
        haveI j4 : At g3 h2 _ := ⟨H3.r2.h⟩
        repeat refine go ?_
        refine w_rgone (k := k) (m := n) H3.r2 e82 (by omega) fun g4 R4 o4 => ?_
        have H4 := H3.off2 R4 o4
        repeat refine go ?_
        have hx : F1.1.take n ≠ [] := by rw [e1]; cases n with | zero => exact absurd rfl c0 | succ n => simp
        have ef1 : F1 = (F1.1.take n ++ F1.1.drop n, F1.2) := by rw [List.take_append_drop]
        have ef2 : F2 = (F1.1.take n ++ F2.1.drop n, F2.2) := by rw [q3, List.take_append_drop]
        have P1 : HP S t u (F1.1.take n ++ F1.1.drop n, F1.2) (F1.1.take n ++ F2.1.drop n, F2.2) is := by rw [← ef1, ← ef2]; exact P
        have P2 := P1.put hx hc
        refine qn _ r _ _ is' _ H4 P2 ?_
        have l1 : (F1.1.drop n).length = F1.1.length - n := List.length_drop ..
        have l2 : (F2.1.drop n).length = F2.1.length - n := List.length_drop ..
        unfold ms
        show (F1.1.drop n).length + (F1.2.map fun t => 11 * lvT S t - 1).sum + ((F2.1.drop n).length + (F2.2.map fun t => 11 * lvT S t - 1).sum) < _
        omega
    · have hm := o.ms wf P.v1
      repeat refine go ?_
      exact qn _ li _ _ is _ ((H.up s1).off1 R o3) (P.open1 wf o) (by omega)
    · have hm := o.ms wf P.v2
      repeat refine go ?_
      exact qn _ li _ _ is _ ((H.up s1).off2 R o3) (P.open2 wf o) (by omega)
  haveI i1 : At g h _ := ⟨H.r1.h⟩
  repeat refine go ?_
  refine w_rnext (k := k) H.r1 (by omega) fun g1 s1 => ?_
  rw [n1e]
  have H1 := H.up s1
  haveI i2 : At g1 h _ := ⟨H1.r1.h⟩
  repeat refine go ?_
  by_cases c1 : nxt F1 = 0
  · refine ifNn (by omega) ?_
    refine go ?_
    exact els H1
  · refine ifN (by omega) ?_
    repeat refine go ?_
    refine w_rnext (k := k) H1.r1 (by omega) fun g2 s2 => ?_
    rw [n1e]
    have H2 := H1.up s2
    haveI i3 : At g2 h2 _ := ⟨H2.r2.h⟩
    repeat refine go ?_
    refine w_rnext (k := k) H2.r2 (by omega) fun g3 s3 => ?_
    rw [n2e]
    have H3 := H2.up s3
    repeat refine go ?_
    by_cases c2 : nxt F1 = nxt F2
    · refine ifD (by omega) ?_
      obtain ⟨p, w1, rfl, e1⟩ := nxt_ne (S := S) c1
      obtain ⟨p2, w2, rfl, e2⟩ := nxt_ne (S := S) (c2 ▸ c1)
      have ep : p = p2 := by rw [← e1, c2, e2]
      subst ep
      haveI i4 : At g3 h _ := ⟨H3.r1.h⟩
      haveI i5 : At g3 li _ := ⟨H3.i⟩
      repeat refine go ?_
      refine w_rnextc (k := k) H3.r1 (by omega) fun g4 s4 => ?_
      have H4 := H3.up s4
      haveI i6 : At g4 li _ := ⟨H4.i⟩
      repeat refine go ?_
      refine ⟨by rw [List.length_map]; omega, ?_⟩
      have ea : is.map itV ++ [nV p] = (is ++ [Sum.inl p]).map itV := by rw [List.map_append]; rfl
      rw [ea]
      have H5 := H4.app (is' := is ++ [Sum.inl p])
      generalize gu g4 li (.lst ((is ++ [Sum.inl p]).map itV)) = g5 at *
      haveI i7 : At g5 h _ := ⟨H5.r1.h⟩
      repeat refine go ?_
      refine w_rpass (k := k) H5.r1 (by omega) fun g6 R6 o6 => ?_
      have H6 := H5.off1 R6 o6
      haveI i8 : At g6 h2 _ := ⟨H6.r2.h⟩
      repeat refine go ?_
      refine w_rpass (k := k) H6.r2 (by omega) fun g7 R7 o7 => ?_
      have H7 := H6.off2 R7 o7
      repeat refine go ?_
      have m1 := ms_pop (wf := wf) P.v1
      have m2 := ms_pop (wf := wf) P.v2
      exact qn _ li _ _ _ _ H7 (P.piece wf) (by omega)
    · refine ifDn (by omega) ?_
      exact els H3
end
end SW
end

section
set_option Elab.async false
set_option linter.all false
set_option maxRecDepth 100000
set_option maxHeartbeats 4000000
/-! Held together. -/
namespace SW
open PySem L2
set_option synthInstance.maxHeartbeats 200000
set_option synthInstance.maxSize 100000
section
variable {kl : Addr → List V → Prop} {defs : Nat → Option FDef} {g : G} {a : Addr} {S : Sh} [jd : JoD defs] [d78 : DefAt defs 78 d_Reader___init__] [d79 : DefAt defs 79 d_Reader_is_over] [d80 : DefAt defs 80 d_Reader_next_piece] [d81 : DefAt defs 81 d_Reader_passed] [d82 : DefAt defs 82 d_Reader_opened] [d83 : DefAt defs 83 d_Reader_next_sign] [d84 : DefAt defs 84 d_Reader_gone] [d85 : DefAt defs 85 d_in_common] [d86 : DefAt defs 86 d_opened_one] [d87 : DefAt defs 87 d_with_signs] [d88 : DefAt defs 88 d_held_together]
theorem w_held (wf : WF S) [sa : At g a (.shf S)] {k t u : Nat} {Q : VG} {E : XG} (ht : t ≤ S.length) (hu : u ≤ S.length) (hst : (rd S t).length ≤ 9000) (hsu : (rd S u).length ≤ 9000) (hk : 10 ≤ k) (q : ∀ g' tp, Sub g g' → Told S t u g' tp → Q (.ref tp) g') : Gam kl bsP defs k 88 [.ref a, .int t, .int u] g Q E := by
  obtain ⟨k, rfl⟩ : ∃ j, k = j + 1 := ⟨k - 1, by omega⟩
  refine gam_of d88.h rfl ?_
  show b_held_together _ _ [some (.ref a), some (.int t), some (.int u), none, none, none, none, none] _
  rw [b_held_eq]
  have hs : sizeLine = 16777216 := rfl
  have l1 := wf.len t ht
  have l2 := wf.len u hu
  repeat refine go ?_
  refine ⟨ht, ?_⟩
  repeat refine go ?_
  refine ⟨hu, ?_⟩
  repeat refine go ?_
  refine ⟨by simp [sizeLine], fun p fp => ?_⟩
  have s1 : Sub g (gu g p (.lst [.int (sgT S t), .int (sgT S u)])) := Sub.new fp.h
  have gp : (gu g p (.lst [.int (sgT S t), .int (sgT S u)])) p = some (.lst [.int (sgT S t), .int (sgT S u)]) := gus
  generalize gu g p (.lst [.int (sgT S t), .int (sgT S u)]) = g1 at *
  haveI i0 : At g1 p _ := ⟨gp⟩
  haveI i1 : At g1 a (.shf S) := ⟨s1 _ _ sa.h⟩
  have main : (sSeq (sAsg (eMk 2 78 (lCons (eV 0) (lCons (eV 1) lNil))) (gN 4)) (sSeq (sAsg (eMk 2 78 (lCons (eV 0) (lCons (eV 2) lNil))) (gN 5)) (sSeq (sAsg (eLst lNil) (gN 6)) (sSeq (sWhile (tAnd (tNot (tVal (eMt [(1, 61), (2, 79)] (eV 4) lNil))) (tNot (tVal (eMt [(1, 61), (2, 79)] (eV 5) lNil)))) b_hbody) b_hrest)))) ⟨kl, Gam kl bsP defs k, fun e x g' => ∃ g'', Sub g'' g' ∧ E e g''⟩ ⟨fun x g' => ∃ g'', Sub g'' g' ∧ Q V.non g'', fun v g' => ∃ g'', Sub g'' g' ∧ Q v g'', fun _ _ => False, fun _ _ => False⟩ [some (.ref a), some (.int t), some (.int u), some (.ref p), none, none, none, none] g1 := by
    repeat refine go ?_
    intro h hh
    refine w_rinit (defs := defs) (k := k) i1.h hh (by omega) fun g2 l s2 fl1 R1 => ⟨rfl, ?_⟩
    haveI i2 : At g2 a (.shf S) := ⟨s2 _ _ i1.h⟩
    repeat refine go ?_
    intro h2 hh2
    refine w_rinit (defs := defs) (k := k) i2.h hh2 (by omega) fun g3 l2 s3 fl2 R2 => ⟨rfl, ?_⟩
    repeat refine go ?_
    refine ⟨by simp, fun li fli => ?_⟩
    have s4 : Sub g3 (gu g3 li (.lst [])) := Sub.new fli.h
    have fz : ∀ {b : Addr} {ga gb : G}, Sub ga gb → gb b = none → ga b = none := fun {b ga gb} s e => by
      cases hz : ga b with
      | none => rfl
      | some o => have := s _ _ hz; rw [e] at this; cases this
    have R1' := R1.sub s3
    have H : HS g (gu g3 li (.lst (([] : List (Nat ⊕ List Nat)).map itV))) h l h2 l2 li a S (st0 t) (st0 u) [] :=
      ⟨s1.trans (s2.trans (s3.trans s4)), R1'.sub s4, R2.sub s4, gus, fz s1 hh, fz s1 fl1, fz (s1.trans s2) hh2, fz (s1.trans s2) fl2, fz (s1.trans (s2.trans s3)) fli.h,
        (fun z => by have := hh2; rw [← z, R1.h] at this; cases this), (fun z => by have := fl2; rw [← z, R1.l] at this; cases this), (fun z => by have := fli.h; rw [z, R1'.l] at this; cases this), (fun z => by have := fli.h; rw [z, R2.l] at this; cases this)⟩
    have P : HP S t u (st0 t) (st0 u) [] := ⟨⟨_, .nil, .refl⟩, ⟨_, .nil, .refl⟩, st0_vd ht, st0_vd hu, by
      have := st0_ms wf ht (by omega)
      have := st0_ms wf hu (by omega)
      show 0 + _ + _ ≤ _
      omega⟩
    repeat refine go ?_
    refine ⟨fun m s g' => ∃ (li : Addr) (F1 F2 : Stt) (is : List (Nat ⊕ List Nat)) (v7 : Option V), m = ms S F1 + ms S F2 ∧ HS g g' h l h2 l2 li a S F1 F2 is ∧ HP S t u F1 F2 is ∧ s = [some (.ref a), some (.int t), some (.int u), some (.ref p), some (.ref h), some (.ref h2), some (.ref li), v7],
      ⟨_, li, _, _, [], none, rfl, H, P, rfl⟩, ?_⟩
    rintro m s g' ⟨li, F1, F2, is, v7, rfl, H, P, rfl⟩
    haveI j1 : At g' h _ := ⟨H.r1.h⟩
    repeat refine go ?_
    refine w_rover (k := k) H.r1 (by omega) fun g4 s5 => ?_
    have H1 := H.up s5
    haveI j2 : At g4 h2 _ := ⟨H1.r2.h⟩
    repeat refine go ?_
    by_cases c1 : F1 = ([], [])
    · rw [decide_eq_true c1]
      repeat refine go ?_
      exact h_rest wf H1 P (.inl c1) (by omega) q
    · rw [decide_eq_false c1]
      repeat refine go ?_
      refine w_rover (k := k) H1.r2 (by omega) fun g5 s6 => ?_
      have H2 := H1.up s6
      repeat refine go ?_
      by_cases c2 : F2 = ([], [])
      · rw [decide_eq_true c2]
        repeat refine go ?_
        exact h_rest wf H2 P (.inr (.inl c2)) (by omega) q
      · rw [decide_eq_false c2]
        repeat refine go ?_
        refine h_body wf H2 P c1 c2 (by omega) (fun g' li' F1' F2' is' v7' H' P' hm => ?_) (fun g' v7' H' pd => ?_)
        · exact ⟨_, _, hm, Sub.refl _, li', F1', F2', is', v7', rfl, H', P', rfl⟩
        · exact h_rest wf H' P pd (by omega) q
  repeat refine go ?_
  by_cases e : t = u
  · refine ifNn (by omega) ?_
    refine go ?_
    exact main
  · refine ifN (by omega) ?_
    repeat refine go ?_
    refine ifDn (by omega) ?_
    refine go ?_
    exact main
end
end SW
end

section
set_option Elab.async false
set_option linter.all false
set_option maxRecDepth 100000
set_option maxHeartbeats 4000000
/-! Rows, in plain Lean. -/
namespace SW
open PySem L2
/-- line feeds -/
def cn : List Nat → Nat
  | [] => 0
  | c :: w => (if c = 10 then 1 else 0) + cn w
theorem cn_app (a b : List Nat) : cn (a ++ b) = cn a + cn b := by
  induction a with
  | nil => simp [cn]
  | cons c a ih => simp only [List.cons_append, cn, ih]; omega
theorem cn_zero {w : List Nat} (h : 10 ∉ w) : cn w = 0 := by
  induction w with
  | nil => rfl
  | cons c w ih =>
    simp only [List.mem_cons, not_or] at h
    simp only [cn]
    rw [if_neg (fun e => h.1 e.symm), ih h.2]
theorem cn_none {w : List Nat} (h : cn w = 0) : 10 ∉ w := by
  induction w with
  | nil => simp
  | cons c w ih =>
    simp only [cn] at h
    have h2 : cn w = 0 := by omega
    have h3 : ¬ c = 10 := by intro e; rw [if_pos e] at h; omega
    simp only [List.mem_cons, not_or]
    exact ⟨fun e => h3 e.symm, ih h2⟩
theorem cn_le (w : List Nat) : cn w ≤ w.length := by
  induction w with
  | nil => simp [cn]
  | cons c w ih => simp only [cn, List.length_cons]; split <;> omega
theorem nl_str : (Str.ofString "\n") = ⟨#[10]⟩ := by kernel_rfl
theorem cnt_cn (w : List Nat) : PyProof.Rows.cnt 10 w = (cn w : Int) := by
  induction w with
  | nil => rfl
  | cons c w ih =>
    rw [PyProof.Rows.cnt_cons, ih]
    simp only [cn]
    split <;> omega
theorem txt_count (x : Str) : Txt.count x (Str.ofString "\n") = (cn x.cps.toList : Int) := by
  rw [nl_str, PyProof.Rows.count_cnt, cnt_cn]
theorem WF.en {S : Sh} (w : WF S) : ∀ t, t ≤ S.length → enT S t = cn (rd S t) := by
  intro t
  induction t using Nat.strongRecOn with
  | ind t ih =>
    intro h1
    by_cases h0 : t = 0
    · subst h0; rw [rd_zero]; rfl
    · rcases w.nd (by omega) h1 with ⟨x, n⟩ | ⟨a, b, n⟩
      · rw [n.en, n.rd]
        have h := txt_count x
        unfold nlN
        rw [show (Txt.count x "\n") = Txt.count x (Str.ofString "\n") from rfl, h, Int.toNat_natCast]
      · have := n.a1
        have := n.b1
        rw [n.en, n.rd, cn_app, ih a (by omega) (by omega), ih b (by omega) (by omega)]
/-- where a row begins -/
def rbg : List Nat → Nat → Nat
  | _, 0 => 0
  | [], _ + 1 => 0
  | c :: w, r + 1 => if c = 10 then 1 + rbg w r else 1 + rbg w (r + 1)
theorem rbg_zero (w : List Nat) : rbg w 0 = 0 := by cases w <;> rfl
theorem rbg_app1 : ∀ (A B : List Nat) (r : Nat), r ≤ cn A → rbg (A ++ B) r = rbg A r
  | A, B, 0, _ => by rw [rbg_zero, rbg_zero]
  | [], B, r + 1, h => by simp [cn] at h
  | c :: A, B, r + 1, h => by
    simp only [cn] at h
    simp only [List.cons_append, rbg]
    split
    · rename_i e
      rw [if_pos e] at h
      rw [rbg_app1 A B r (by omega)]
    · rename_i e
      rw [if_neg e] at h
      rw [rbg_app1 A B (r + 1) (by omega)]
theorem rbg_app2 : ∀ (A B : List Nat) (r : Nat), cn A < r → rbg (A ++ B) r = A.length + rbg B (r - cn A)
  | A, B, 0, h => by omega
  | [], B, r + 1, _ => by simp [cn]
  | c :: A, B, r + 1, h => by
    simp only [cn] at h
    simp only [List.cons_append, rbg, cn, List.length_cons]
    split
    · rename_i e
      rw [if_pos e] at h
      rw [rbg_app2 A B r (by omega), show r + 1 - (1 + cn A) = r - cn A by omega]
      omega
    · rename_i e
      rw [if_neg e] at h
      rw [rbg_app2 A B (r + 1) (by omega), Nat.zero_add]
      omega
theorem rbg_le : ∀ (w : List Nat) (r : Nat), rbg w r ≤ w.length
  | w, 0 => by rw [rbg_zero]; omega
  | [], r + 1 => by simp [rbg]
  | c :: w, r + 1 => by
    simp only [rbg, List.length_cons]
    have h1 := rbg_le w r
    have h2 := rbg_le w (r + 1)
    split <;> omega
theorem rbg_pos : ∀ (w : List Nat) (r : Nat), 0 < r → r ≤ cn w → 0 < rbg w r
  | w, 0, h, _ => by omega
  | [], r + 1, _, h => by simp [cn] at h
  | c :: w, r + 1, _, h => by simp only [rbg]; split <;> omega
/-- where a row ends -/
def ren (w : List Nat) (r : Nat) : Nat := if r = cn w then w.length else rbg w (r + 1) - 1
theorem rbg_ren (w : List Nat) : ∀ r, r ≤ cn w → rbg w r ≤ ren w r ∧ ren w r ≤ w.length := by
  intro r hr
  unfold ren
  split
  · exact ⟨rbg_le w r, Nat.le_refl _⟩
  · have h1 := rbg_le w (r + 1)
    refine ⟨?_, by omega⟩
    have : ∀ (w : List Nat) (r : Nat), r + 1 ≤ cn w → rbg w r + 1 ≤ rbg w (r + 1) := by
      intro w
      induction w with
      | nil => intro r h; simp [cn] at h
      | cons c w ih =>
        intro r h
        simp only [cn] at h
        cases r with
        | zero => rw [rbg_zero]; simp only [rbg]; split <;> omega
        | succ r =>
          simp only [rbg]
          by_cases e : c = 10
          · rw [if_pos e, if_pos e]
            rw [if_pos e] at h
            have := ih r (by omega)
            omega
          · rw [if_neg e, if_neg e]
            rw [if_neg e] at h
            have := ih (r + 1) (by omega)
            omega
    have := this w r (by omega)
    omega
/-- a row's signs -/
def rowN (w : List Nat) (r : Nat) : List Nat := (w.take (ren w r)).drop (rbg w r)
theorem row_join : ∀ (ps : List (List Nat)), ps ≠ [] → (∀ p ∈ ps, 10 ∉ p) → cn (TL.joinL [10] ps) + 1 = ps.length ∧ ∀ r p, ps[r]? = some p → rowN (TL.joinL [10] ps) r = p
  | [], h, _ => absurd rfl h
  | [p], _, hp => by
    have hc := cn_zero (hp p List.mem_cons_self)
    refine ⟨by show cn p + 1 = 1; omega, fun r q hq => ?_⟩
    have hr : r = 0 := by have := (List.getElem?_eq_some_iff.mp hq).1; simp at this; omega
    subst hr
    simp at hq
    subst hq
    show rowN p 0 = p
    unfold rowN ren
    rw [if_pos hc.symm, rbg_zero, List.drop_zero, List.take_of_length_le (Nat.le_refl _)]
  | p :: q :: rest, _, hp => by
    have hc := cn_zero (hp p List.mem_cons_self)
    obtain ⟨i1, i2⟩ := row_join (q :: rest) (by simp) fun z hz => hp z (List.mem_cons_of_mem _ hz)
    have ej : TL.joinL [10] (p :: q :: rest) = p ++ 10 :: TL.joinL [10] (q :: rest) := rfl
    generalize TL.joinL [10] (q :: rest) = w at *
    have e1 : cn (p ++ 10 :: w) = 1 + cn w := by rw [cn_app, hc]; simp [cn]
    refine ⟨by rw [ej, e1, List.length_cons, ← i1]; omega, fun r z hz => ?_⟩
    rw [ej]
    have b1 : ∀ r, rbg (p ++ 10 :: w) (r + 1) = p.length + 1 + rbg w r := fun r => by
      rw [rbg_app2 p _ (r + 1) (by omega), hc, Nat.sub_zero]
      simp only [rbg, if_pos]
      omega
    cases r with
    | zero =>
      simp at hz
      subst hz
      unfold rowN ren
      rw [if_neg (by omega), b1, rbg_zero, rbg_zero, List.drop_zero]
      rw [show p.length + 1 + 0 - 1 = p.length by omega, List.take_left']
      rfl
    | succ r =>
      have h2 := i2 r z (by simpa using hz)
      have hl : r < (q :: rest).length := (List.getElem?_eq_some_iff.mp (show (q :: rest)[r]? = some z by simpa using hz)).1
      have er : ren (p ++ 10 :: w) (r + 1) = p.length + 1 + ren w r := by
        unfold ren
        rw [e1]
        by_cases e : r = cn w
        · rw [if_pos (by omega), if_pos e, List.length_append, List.length_cons]; omega
        · rw [if_neg (by omega), if_neg e, b1]
          have := rbg_pos w (r + 1) (by omega) (by omega)
          omega
      unfold rowN at h2 ⊢
      rw [er, b1]
      have ea : p ++ 10 :: w = (p ++ [10]) ++ w := by simp
      have el : (p ++ [10]).length = p.length + 1 := by simp
      rw [ea, ← el, List.take_length_add_append, ← List.drop_drop, List.drop_left]
      exact h2
/-- the rows that str.split tells -/
theorem split_rows (x : Str) : (Txt.split x (Str.ofString "\n")).length = cn x.cps.toList + 1 ∧ ∀ r, r ≤ cn x.cps.toList → (Txt.split x (Str.ofString "\n"))[r]? = some (strT (rowN x.cps.toList r)) := by
  have hj := StrLaws.join_split x (Str.ofString "\n")
  have hf := StrLaws.split_free x 10
  rw [nl_str] at *
  have h1 : 1 ≤ (Txt.split x ⟨#[10]⟩).length := PyProof.Rows.split_pos x _
  generalize Txt.split x ⟨#[10]⟩ = ps at *
  have e : x.cps.toList = TL.joinL [10] (ps.map fun p => p.cps.toList) := by
    conv => lhs; rw [← hj]
    exact TL.tl_join ⟨#[10]⟩ ps
  obtain ⟨a, b⟩ := row_join (ps.map fun p => p.cps.toList) (fun z => by rw [List.map_eq_nil_iff] at z; rw [z] at h1; simp at h1) (fun p hp => by
    obtain ⟨y, hy, rfl⟩ := List.mem_map.mp hp
    exact hf y hy)
  rw [List.length_map] at a
  rw [e]
  refine ⟨a.symm, fun r hr => ?_⟩
  have hl : r < ps.length := by omega
  have := b r _ (by rw [List.getElem?_map, List.getElem?_eq_getElem hl]; rfl)
  rw [this, List.getElem?_eq_getElem hl, strT_tl]
/-- where the last row of a text begins, by str.rfind -/
theorem rfind_rbg (x : Str) : Txt.rfind x (Str.ofString "\n") + 1 = (rbg x.cps.toList (cn x.cps.toList) : Int) := by
  have at_ : ∀ i, StrLaws.At x ⟨#[10]⟩ x.length i ↔ x.cps.toList[i]? = some 10 := by
    intro i
    unfold StrLaws.At PySem.Builtin.Str.subAt
    show i + 1 ≤ x.length ∧ (x.cps.extract i (i + 1) == #[10]) = true ↔ _
    have lx : x.length = x.cps.toList.length := by simp [Str.length]
    constructor
    · rintro ⟨h1, h2⟩
      have h3 := eq_of_beq h2
      have h4 := congrArg Array.toList h3
      rw [Array.toList_extract, List.extract_eq_drop_take] at h4
      have h5 : i < x.cps.toList.length := by omega
      rw [List.drop_eq_getElem_cons h5] at h4
      have h6 : i + 1 - i = 1 := by omega
      rw [h6] at h4
      simp at h4
      rw [List.getElem?_eq_getElem h5]
      simpa using h4
    · intro h
      have h5 := (List.getElem?_eq_some_iff.mp h).1
      refine ⟨by omega, ?_⟩
      rw [beq_iff_eq]
      apply Array.toList_inj.mp
      rw [Array.toList_extract, List.extract_eq_drop_take, List.drop_eq_getElem_cons h5]
      have h6 : i + 1 - i = 1 := by omega
      rw [h6]
      rw [List.getElem?_eq_getElem h5] at h
      simpa using h
  unfold Txt.rfind
  rw [nl_str]
  rcases StrLaws.last_spec x ⟨#[10]⟩ with ⟨h1, h2⟩ | ⟨i, h1, h2, h3⟩
  · rw [h1]
    have : cn x.cps.toList = 0 := cn_zero fun hm => by
      obtain ⟨i, hi⟩ := List.getElem?_of_mem hm
      exact h2 i ((at_ i).mpr hi)
    rw [this, rbg_zero]; rfl
  · rw [h1]
    have h4 := (at_ i).mp h2
    have h5 := (List.getElem?_eq_some_iff.mp h4).1
    have e : x.cps.toList = x.cps.toList.take i ++ 10 :: x.cps.toList.drop (i + 1) := by
      have h6 := (List.getElem?_eq_some_iff.mp h4).2
      conv => lhs; rw [← List.take_append_drop i x.cps.toList, List.drop_eq_getElem_cons h5, h6]
    have hz : cn (x.cps.toList.drop (i + 1)) = 0 := cn_zero fun hm => by
      obtain ⟨j, hj⟩ := List.getElem?_of_mem hm
      rw [List.getElem?_drop] at hj
      exact h3 (i + 1 + j) (by omega) ((at_ _).mpr hj)
    have hl : (x.cps.toList.take i).length = i := by rw [List.length_take]; omega
    generalize x.cps.toList.take i = A at *
    generalize x.cps.toList.drop (i + 1) = B at *
    rw [e]
    have hcn : cn (A ++ 10 :: B) = cn A + 1 := by rw [cn_app]; simp [cn, hz]
    rw [hcn, rbg_app2 A _ (cn A + 1) (by omega), hl, show cn A + 1 - cn A = 0 + 1 by omega]
    simp only [rbg, if_pos]
    omega
end SW
end

section
set_option Elab.async false
set_option linter.all false
set_option maxRecDepth 100000
set_option maxHeartbeats 4000000
/-! Rows. -/
namespace SW
open PySem L2
set_option synthInstance.maxHeartbeats 200000
set_option synthInstance.maxSize 100000
/-- the places of line feeds -/
def nlp (w : List Nat) : List Nat := (List.range w.length).filter fun i => decide (w[i]? = some 10)
theorem nlp_get : ∀ (w : List Nat) (r : Nat), r < cn w → (nlp w)[r]? = some (rbg w (r + 1) - 1)
  | [], r, h => by simp [cn] at h
  | c :: w, r, h => by
    have e : nlp (c :: w) = (if c = 10 then [0] else []) ++ (nlp w).map (· + 1) := by
      unfold nlp
      rw [List.length_cons, List.range_succ_eq_map, List.filter_cons, List.filter_map]
      have e1 : (fun i => decide ((c :: w)[i]? = some 10)) ∘ Nat.succ = fun i => decide (w[i]? = some 10) := by funext i; simp
      rw [e1]
      by_cases hc : c = 10
      · simp [hc]
      · simp [hc]
    simp only [cn] at h
    rw [e]
    by_cases hc : c = 10
    · rw [if_pos hc] at h ⊢
      cases r with
      | zero => simp only [rbg]; rw [if_pos hc]; rfl
      | succ r =>
        have ih := nlp_get w r (by omega)
        have := rbg_pos w (r + 1) (by omega) (by omega)
        simp only [List.singleton_append, List.getElem?_cons_succ, List.getElem?_map, ih, Option.map_some, rbg, if_pos hc]
        congr 1; omega
    · rw [if_neg hc] at h ⊢
      have ih := nlp_get w r (by omega)
      have := rbg_pos w (r + 1) (by omega) (by omega)
      simp only [List.nil_append, List.getElem?_map, ih, Option.map_some, rbg, if_neg hc]
      congr 1; omega
section
variable {kl : Addr → List V → Prop} {defs : Nat → Option FDef} {k : Nat} {g : G} {Q : VG} {E : XG} {a : Addr} {S : Sh} [sa : At g a (.shf S)] [d32 : DefAt defs 32 d_rows_in] [d33 : DefAt defs 33 d_ends_ahead] [d34 : DefAt defs 34 d_place_behind] [d35 : DefAt defs 35 d_row_begin] [d36 : DefAt defs 36 d_row_end] [d37 : DefAt defs 37 d_row_at] [d38 : DefAt defs 38 d_row_text] [d29 : DefAt defs 29 d_gathered] [d30 : DefAt defs 30 d_stretch_of]
theorem w_rows (wf : WF S) {t : Nat} {w : List Nat} (h : Rd S t w) (hk : 1 ≤ k) (q : Q (.int ((cn w + 1 : Nat) : Int)) g) : Gam kl bsP defs k 32 [.ref a, .int t] g Q E := by
  obtain ⟨k, rfl⟩ : ∃ j, k = j + 1 := ⟨k - 1, by omega⟩
  refine gam_of d32.h rfl ?_
  show b_rows_in _ _ [some (.ref a), some (.int t)] _
  unfold b_rows_in
  have he := wf.en t h.le
  rw [h.rd] at he
  repeat refine go ?_
  refine ⟨h.le, ?_⟩
  rw [he]
  repeat refine go ?_
  have e : ((cn w : Int) + 1) = ((cn w + 1 : Nat) : Int) := by omega
  rw [e]
  exact fin q
theorem w_ends (wf : WF S) {t p : Nat} {w : List Nat} (h : Rd S t w) (hp : p ≤ w.length) (hk : 1 ≤ k) (q : ∀ g', Sub g g' → Q (.int (cn (w.take p) : Nat)) g') : Gam kl bsP defs k 33 [.ref a, .int t, .int p] g Q E := by
  obtain ⟨k, rfl⟩ : ∃ j, k = j + 1 := ⟨k - 1, by omega⟩
  refine gam_of d33.h rfl ?_
  show b_ends_ahead _ _ [some (.ref a), some (.int t), some (.int p), none, none, none, none] _
  unfold b_ends_ahead
  repeat refine go ?_
  refine ⟨fun m s g' => ∃ (t1 p1 many : Nat) (v4 v5 v6 : Option V), m = t1 ∧ t1 ≤ S.length ∧ p1 ≤ (rd S t1).length ∧ many + cn ((rd S t1).take p1) = cn (w.take p) ∧ s = [some (.ref a), some (.int t1), some (.int p1), some (.int many), v4, v5, v6] ∧ Sub g g',
    ⟨t, t, p, 0, none, none, none, rfl, h.le, by rw [h.rd]; exact hp, by rw [h.rd]; omega, rfl, Sub.refl _⟩, ?_⟩
  rintro m s g' ⟨t1, p1, many, v4, v5, v6, rfl, h1, h2, h3, rfl, sub⟩
  haveI i1 : At g' a (.shf S) := ⟨sub _ _ sa.h⟩
  repeat refine go ?_
  refine ⟨h1, ?_⟩
  repeat refine go ?_
  by_cases h0 : m = 0
  · subst h0
    rw [rd_zero] at h3
    refine ifDn (by show ¬ (0 : Int) < -1; omega) ?_
    repeat refine go ?_
    refine ifD rfl ?_
    repeat refine go ?_
    have e : many = cn (w.take p) := by simpa [cn] using h3
    rw [e]
    exact ⟨_, Sub.refl _, q g' sub⟩
  · rw [htT_pos (by omega)]
    rcases wf.nd (by omega) h1 with ⟨x, n⟩ | ⟨u, v, n⟩
    · refine ifDn (by rw [n.ht]; omega) ?_
      haveI : PcL S m x := ⟨n.pc⟩
      repeat refine go ?_
      refine ifDn (by omega) ?_
      repeat refine go ?_
      intro c hc
      repeat refine go ?_
      refine ⟨_, rfl, ?_⟩
      repeat refine go ?_
      have h8 := n.ok.h8
      refine ⟨Nat.le_trans h8 (by simp [sizeLine]), ?_⟩
      rw [cutS_to]
      repeat refine go ?_
      have ec : Txt.count (⟨(List.take p1 x.cps.toList).toArray⟩ : Str) (Str.ofString "\n") = (cn (x.cps.toList.take p1) : Int) := by have := txt_count (strT (x.cps.toList.take p1)); rw [tl_strT] at this; exact this
      rw [ec]
      rw [n.rd] at h3
      have e : (many : Int) + (cn (x.cps.toList.take p1) : Int) = (cn (w.take p) : Nat) := by omega
      rw [e]
      exact ⟨_, Sub.refl _, q _ (sub.trans hc.sub)⟩
    · refine ifD (by rw [n.ht]; omega) ?_
      haveI : PcF S m u v := ⟨n.pc⟩
      have hu := n.a1
      have hv := n.b1
      have lu := wf.len u (by omega)
      have eu := wf.en u (by omega)
      rw [n.rd, List.length_append] at h2
      rw [n.rd, List.take_append, cn_app] at h3
      repeat refine go ?_
      intro c hc
      have s2 := sub.trans hc.sub
      repeat refine go ?_
      refine ⟨rfl, ?_⟩
      repeat refine go ?_
      refine ⟨by omega, ?_⟩
      repeat refine go ?_
      by_cases hlt : p1 < sgT S u
      · refine ifD (by omega) ?_
        repeat refine go ?_
        have e0 : p1 - (rd S u).length = 0 := by omega
        rw [e0, List.take_zero] at h3
        refine ⟨u, _, hu, Sub.refl _, u, p1, many, _, _, _, rfl, by omega, by omega, by simpa [cn] using h3, rfl, s2⟩
      · refine ifDn (by omega) ?_
        repeat refine go ?_
        refine ⟨by omega, ?_⟩
        repeat refine go ?_
        refine ⟨by omega, ?_⟩
        repeat refine go ?_
        have e1 : (many : Int) + (enT S u : Int) = ((many + enT S u : Nat) : Int) := by omega
        have e2 : (p1 : Int) - (sgT S u : Int) = ((p1 - sgT S u : Nat) : Int) := by omega
        rw [e1, e2]
        rw [List.take_of_length_le (by omega), lu] at h3
        refine ⟨v, _, hv, Sub.refl _, v, p1 - sgT S u, many + enT S u, _, _, _, rfl, by omega, by omega, by omega, rfl, s2⟩
theorem w_behind (wf : WF S) {t r : Nat} {w : List Nat} (h : Rd S t w) (hr : 0 < r) (hr2 : r ≤ cn w) (hk : 1 ≤ k) (q : ∀ g', Sub g g' → Q (.int (rbg w r : Nat)) g') : Gam kl bsP defs k 34 [.ref a, .int t, .int r] g Q E := by
  obtain ⟨k, rfl⟩ : ∃ j, k = j + 1 := ⟨k - 1, by omega⟩
  refine gam_of d34.h rfl ?_
  show b_place_behind _ _ [some (.ref a), some (.int t), some (.int r), none, none, none, none, none, none, none, none, none] _
  unfold b_place_behind
  have hs : sizeLine = 16777216 := rfl
  repeat refine go ?_
  refine ⟨fun m s g' => ∃ (t1 r1 ah : Nat) (v5 v6 v7 : Option V), m = t1 ∧ t1 ≤ S.length ∧ 0 < r1 ∧ r1 ≤ cn (rd S t1) ∧ ah + rbg (rd S t1) r1 = rbg w r ∧ s = [some (.ref a), some (.int t1), some (.int r), some (.int ah), some (.int r1), v5, v6, v7, none, none, none, none] ∧ Sub g g',
    ⟨t, t, r, 0, none, none, none, rfl, h.le, hr, by rw [h.rd]; exact hr2, by rw [h.rd]; omega, rfl, Sub.refl _⟩, ?_⟩
  rintro m s g' ⟨t1, r1, ah, v5, v6, v7, rfl, h1, h2, h3, h4, rfl, sub⟩
  haveI i1 : At g' a (.shf S) := ⟨sub _ _ sa.h⟩
  have h0 : 0 < m := by
    by_cases h0 : m = 0
    · subst h0; rw [rd_zero] at h3; simp [cn] at h3; omega
    · omega
  repeat refine go ?_
  refine ⟨h1, ?_⟩
  repeat refine go ?_
  rw [htT_pos h0]
  rcases wf.nd h0 h1 with ⟨x, n⟩ | ⟨u, v, n⟩
  · refine ifDn (by rw [n.ht]; omega) ?_
    haveI : PcL S m x := ⟨n.pc⟩
    repeat refine go ?_
    intro c hc
    repeat refine go ?_
    refine ⟨_, rfl, ?_⟩
    have hx8 : x.cps.toList.length ≤ 8 := by rw [tl_len']; exact n.ok.h8
    rw [n.rd] at h3 h4
    repeat refine go ?_
    have lenq : (Sq.enmS x).len = x.cps.toList.length := by rw [tl_len']; rfl
    refine lc_of (fun i => if x.cps.toList[i]? = some 10 then some (V.int (i : Nat)) else none) (by rw [lenq]; omega) (fun _ _ _ => trivial) (fun D i hD hi KY KN hy hn => ?_) (fun D hD => ?_)
    · refine go ?_
      intro q2 c2 hc2 hq2
      have hc3 : x.cps.toList[i]? = some c2 := by rw [Array.getElem?_toList]; exact hc2
      haveI : Fr (gu (gu g' c (.tup [.str "leaf", .str x])) D (.lst ((List.range i).filterMap fun i => if x.cps.toList[i]? = some 10 then some (V.int (i : Nat)) else none))) q2 := ⟨hq2⟩
      show (gTp [10, 11]) _ _ [some (.ref a), some (.int m), some (.int r), some (.int ah), some (.int r1), v5, v6, v7, some (.str x), none, none, none] _ _
      repeat refine go ?_
      refine ⟨rfl, rfl, ?_⟩
      repeat refine go ?_
      by_cases h10 : c2 = 10
      · subst h10
        refine ifD nl_str.symm ?_
        repeat refine go ?_
        exact hy _ _ (by rw [hc3, if_pos rfl]) (Sub.new hq2)
      · refine ifDn (fun z => h10 (by
          rw [nl_str] at z
          have := congrArg (fun s : Str => s.cps.toList) z
          simpa using this)) ?_
        exact hn _ (by rw [hc3, if_neg (fun z => h10 (by simpa using z))]) (Sub.new hq2)
    · have en : (List.range (Sq.enmS x).len).filterMap (fun i => if x.cps.toList[i]? = some 10 then some (V.int (i : Nat)) else none) = (nlp x.cps.toList).map nV := by
        rw [lenq]
        unfold nlp
        have : ∀ l : List Nat, l.filterMap (fun i => if x.cps.toList[i]? = some 10 then some (V.int (i : Nat)) else none) = (l.filter fun i => decide (x.cps.toList[i]? = some 10)).map nV := by
          intro l
          induction l with
          | nil => rfl
          | cons z l ih =>
            rw [List.filterMap_cons, List.filter_cons, ih]
            by_cases hz : x.cps.toList[z]? = some 10
            · rw [if_pos hz, if_pos (decide_eq_true hz)]; rfl
            · rw [if_neg hz, if_neg (by rw [decide_eq_false hz]; exact Bool.false_ne_true)]
        exact this _
      rw [en]
      repeat refine go ?_
      have hg := nlp_get x.cps.toList (r1 - 1) (by omega)
      rw [show r1 - 1 + 1 = r1 by omega] at hg
      have e1 : (r1 : Int) - 1 = ((r1 - 1 : Nat) : Int) := by omega
      rw [e1]
      have hl := (List.getElem?_eq_some_iff.mp hg).1
      refine ⟨nV (rbg x.cps.toList r1 - 1), ?_, ?_⟩
      · rw [atI_nat (by rw [List.length_map]; exact hl), List.getElem_map, (List.getElem?_eq_some_iff.mp hg).2]
      repeat refine go ?_
      have hp := rbg_pos x.cps.toList r1 h2 h3
      have e2 : (ah : Int) + ((rbg x.cps.toList r1 - 1 : Nat) : Int) + 1 = (rbg w r : Nat) := by omega
      rw [e2]
      exact ⟨_, Sub.refl _, q _ ((sub.trans hc.sub).trans (Sub.new hD))⟩
  · refine ifD (by rw [n.ht]; omega) ?_
    haveI : PcF S m u v := ⟨n.pc⟩
    have hu := n.a1
    have hv := n.b1
    have lu := wf.len u (by omega)
    have eu := wf.en u (by omega)
    rw [n.rd, cn_app] at h3
    rw [n.rd] at h4
    repeat refine go ?_
    intro c hc
    have s2 := sub.trans hc.sub
    repeat refine go ?_
    refine ⟨rfl, ?_⟩
    repeat refine go ?_
    refine ⟨by omega, ?_⟩
    repeat refine go ?_
    by_cases hlt : r1 ≤ enT S u
    · refine ifD (by omega) ?_
      repeat refine go ?_
      rw [rbg_app1 _ _ _ (by omega)] at h4
      refine ⟨u, _, hu, Sub.refl _, u, r1, ah, _, _, _, rfl, by omega, h2, by omega, h4, rfl, s2⟩
    · refine ifDn (by omega) ?_
      repeat refine go ?_
      refine ⟨by omega, ?_⟩
      repeat refine go ?_
      refine ⟨by omega, ?_⟩
      repeat refine go ?_
      rw [rbg_app2 _ _ _ (by omega)] at h4
      have e1 : (r1 : Int) - (enT S u : Int) = ((r1 - cn (rd S u) : Nat) : Int) := by omega
      have e2 : (ah : Int) + (sgT S u : Int) = ((ah + sgT S u : Nat) : Int) := by omega
      rw [e1, e2]
      refine ⟨v, _, hv, Sub.refl _, v, r1 - cn (rd S u), ah + sgT S u, _, _, _, rfl, by omega, by omega, by omega, by omega, rfl, s2⟩
theorem w_rbeg (wf : WF S) {t r : Nat} {w : List Nat} (h : Rd S t w) (hr : r ≤ cn w) (hk : 2 ≤ k) (q : ∀ g', Sub g g' → Q (.int (rbg w r : Nat)) g') : Gam kl bsP defs k 35 [.ref a, .int t, .int r] g Q E := by
  obtain ⟨k, rfl⟩ : ∃ j, k = j + 1 := ⟨k - 1, by omega⟩
  refine gam_of d35.h rfl ?_
  show b_row_begin _ _ [some (.ref a), some (.int t), some (.int r), none] _
  unfold b_row_begin
  repeat refine go ?_
  refine w_rows wf h (by omega) ?_
  repeat first | refine go ?_ | refine ifD (by omega) ?_ | refine ifN (by omega) ?_ | refine ifNn (by omega) ?_ | rw [decide_eq_true (show (r : Int) < ((cn w + 1 : Nat) : Int) by omega)] | fail
  by_cases h0 : r = 0
  · subst h0
    refine ifD rfl ?_
    repeat refine go ?_
    have := q g (Sub.refl _)
    rw [rbg_zero] at this
    exact ⟨_, Sub.refl _, this⟩
  · refine ifDn (by omega) ?_
    repeat refine go ?_
    refine w_behind wf h (by omega) hr (by omega) fun g' s => ?_
    exact ⟨_, Sub.refl _, q g' s⟩
theorem w_rend (wf : WF S) {t r : Nat} {w : List Nat} (h : Rd S t w) (hr : r ≤ cn w) (hk : 2 ≤ k) (q : ∀ g', Sub g g' → Q (.int (ren w r : Nat)) g') : Gam kl bsP defs k 36 [.ref a, .int t, .int r] g Q E := by
  obtain ⟨k, rfl⟩ : ∃ j, k = j + 1 := ⟨k - 1, by omega⟩
  refine gam_of d36.h rfl ?_
  show b_row_end _ _ [some (.ref a), some (.int t), some (.int r)] _
  unfold b_row_end
  repeat refine go ?_
  refine w_rows wf h (by omega) ?_
  repeat refine go ?_
  have hsg := h.sg wf
  by_cases h0 : r = cn w
  · refine ifD (by omega) ?_
    repeat refine go ?_
    refine ⟨h.le, ?_⟩
    rw [hsg]
    have := q g (Sub.refl _)
    unfold ren at this
    rw [if_pos h0] at this
    exact fin this
  · refine ifDn (by omega) ?_
    repeat refine go ?_
    have e : (r : Int) + 1 = ((r + 1 : Nat) : Int) := by omega
    rw [e]
    refine w_behind wf h (by omega) (by omega) (by omega) fun g' s => ?_
    repeat refine go ?_
    have hp := rbg_pos w (r + 1) (by omega) (by omega)
    have := q g' s
    unfold ren at this
    rw [if_neg h0] at this
    have e2 : ((rbg w (r + 1) : Nat) : Int) - 1 = ((rbg w (r + 1) - 1 : Nat) : Int) := by omega
    rw [e2]
    exact ⟨_, Sub.refl _, this⟩
theorem w_rowat (wf : WF S) {t p : Nat} {w : List Nat} (h : Rd S t w) (hp : p ≤ w.length) (hk : 3 ≤ k)
    (q : ∀ g' r, Sub g g' → g r = none → g' r = some (.tup [nV (cn (w.take p)), nV (p - rbg w (cn (w.take p)))]) → Q (.ref r) g') : Gam kl bsP defs k 37 [.ref a, .int t, .int p] g Q E := by
  obtain ⟨k, rfl⟩ : ∃ j, k = j + 1 := ⟨k - 1, by omega⟩
  refine gam_of d37.h rfl ?_
  show b_row_at _ _ [some (.ref a), some (.int t), some (.int p), none, none] _
  unfold b_row_at
  have hsg := h.sg wf
  have hl := h.le
  repeat refine go ?_
  refine ⟨hl, ?_⟩
  rw [hsg]
  repeat first | refine go ?_ | refine ifD (by omega) ?_ | refine ifN (by omega) ?_ | refine ifNn (by omega) ?_ | rw [decide_eq_true (show (p : Int) ≤ (w.length : Int) by omega)] | fail
  refine w_ends wf h hp (by omega) fun g1 s1 => ?_
  haveI i1 : At g1 a (.shf S) := ⟨s1 _ _ sa.h⟩
  repeat refine go ?_
  have hle : cn (w.take p) ≤ cn w := by
    conv => rhs; rw [← List.take_append_drop p w]
    rw [cn_app]; omega
  refine w_rbeg wf h hle (by omega) fun g2 s2 => ?_
  have hb : rbg w (cn (w.take p)) ≤ p := by
    have : rbg (w.take p ++ w.drop p) (cn (w.take p)) = rbg (w.take p) (cn (w.take p)) := rbg_app1 _ _ _ (Nat.le_refl _)
    rw [List.take_append_drop] at this
    rw [this]
    exact Nat.le_trans (rbg_le _ _) (by rw [List.length_take]; omega)
  repeat refine go ?_
  refine ⟨by simp [sizeLine], fun r fr => ?_⟩
  have e : (p : Int) - ((rbg w (cn (w.take p)) : Nat) : Int) = ((p - rbg w (cn (w.take p)) : Nat) : Int) := by omega
  rw [e]
  have s12 := s1.trans s2
  refine ⟨_, Sub.refl _, q _ r (s12.trans (Sub.new fr.h)) ?_ gus⟩
  cases z : g r with
  | none => rfl
  | some o => have := s12 _ _ z; rw [fr.h] at this; cases this
theorem w_rowtext (wf : WF S) {t r : Nat} {w : List Nat} (h : Rd S t w) (hr : r ≤ cn w) (hw : w.length ≤ 10000) (hk : 101 ≤ k) (q : ∀ g', Sub g g' → Q (.str (strT (rowN w r))) g') : Gam kl bsP defs k 38 [.ref a, .int t, .int r] g Q E := by
  obtain ⟨k, rfl⟩ : ∃ j, k = j + 1 := ⟨k - 1, by omega⟩
  refine gam_of d38.h rfl ?_
  show b_row_text _ _ [some (.ref a), some (.int t), some (.int r), none] _
  unfold b_row_text
  repeat refine go ?_
  refine w_rbeg wf h hr (by omega) fun g1 s1 => ?_
  haveI i1 : At g1 a (.shf S) := ⟨s1 _ _ sa.h⟩
  repeat refine go ?_
  refine w_rend wf h hr (by omega) fun g2 s2 => ?_
  haveI i2 : At g2 a (.shf S) := ⟨s2 _ _ i1.h⟩
  repeat refine go ?_
  obtain ⟨b1, b2⟩ := rbg_ren w r hr
  refine w_str wf h b1 b2 (by omega) (by omega) ?_
  exact ⟨_, Sub.refl _, q g2 (s1.trans s2)⟩
end
end SW
end

section
set_option Elab.async false
set_option linter.all false
set_option maxRecDepth 100000
set_option maxHeartbeats 4000000
/-! k97: drawing. -/
namespace SW
open PySem L2
local macro_rules | `(tactic| walk_at "w") => `(tactic| repeat first | refine go ?_ | refine ifT ?_ | refine ifF ?_ | refine And.intro (by omega) ?_ | refine ifD (by omega) ?_ | refine ifDn (by omega) ?_ | refine ifN (by omega) ?_ | refine ifNn (by omega) ?_ | refine And.intro (by simp [sizeLine, atOf] <;> omega) ?_ | (intro _ _) | fail)
set_option synthInstance.maxHeartbeats 200000
set_option synthInstance.maxSize 100000
class LawD (defs : Nat → Option FDef) : Prop where
  h200 : defs 200 = some d_law_mixed
  h201 : defs 201 = some d_law_stream
  h202 : defs 202 = some d_law_take
  h203 : defs 203 = some d_law_own
  h204 : defs 204 = some d_law_signs
  h205 : defs 205 = some d_law_plain
  h206 : defs 206 = some d_law_deed
  h207 : defs 207 = some d_law_places
  h208 : defs 208 = some d_law_words
  h209 : defs 209 = some d_law_held
  h210 : defs 210 = some d_law
section
variable {kl : Addr → List V → Prop} {bs : Nat → SpG} {defs : Nat → Option FDef} {k : Nat} {g : G} {Q : VG} {E : XG} {a st : Addr} {S S' : Sh} [ld : LawD defs]
theorem l_mixed {c : Int} {i : Nat} (hi : i < 1000) (hk : 1 ≤ k) (q : ∀ m : Nat, m < 2147483647 → Q (.int m) g) : Gam kl bs defs k 200 [.int c, .int i] g Q E := by
  obtain ⟨k, rfl⟩ : ∃ j, k = j + 1 := ⟨k - 1, by omega⟩
  refine gam_of ld.h200 rfl ?_
  show b_law_mixed _ _ [some (.int c), some (.int i), none] _
  unfold b_law_mixed
  have big : (2 : Nat) ^ 20000 > 2 ^ 100 := by decide +kernel
  have b100 : (2 : Nat) ^ 100 = 1267650600228229401496703205376 := by decide +kernel
  have h0 := Int.emod_nonneg c (show (1000000007 : Int) ≠ 0 by omega)
  have h1 := Int.emod_lt_of_pos c (show (0 : Int) < 1000000007 by omega)
  repeat refine go ?_
  refine ⟨by omega, ?_⟩
  repeat refine go ?_
  refine ⟨cmulw (by show (7919 : Nat) < _; omega) (by rw [Int.natAbs_natCast]; omega), ?_⟩
  repeat refine go ?_
  refine ⟨cmulw (by omega) (by show (48271 : Nat) < _; omega), ?_⟩
  repeat refine go ?_
  refine ⟨by omega, ?_⟩
  generalize hx : (c % 1000000007 + 7919 * (i : Int) + 101) * 48271 % 2147483647 = x
  have x0 : 0 ≤ x := by rw [← hx]; exact Int.emod_nonneg _ (by omega)
  have x1 : x < 2147483647 := by rw [← hx]; exact Int.emod_lt_of_pos _ (by omega)
  repeat refine go ?_
  refine ⟨cmulw (by omega) (by omega), ?_⟩
  repeat refine go ?_
  refine ⟨by omega, ?_⟩
  generalize hy : x * x % 2147483629 = y
  have y0 : 0 ≤ y := by rw [← hy]; exact Int.emod_nonneg _ (by omega)
  have y1 : y < 2147483629 := by rw [← hy]; exact Int.emod_lt_of_pos _ (by omega)
  repeat refine go ?_
  refine ⟨cmulw (by omega) (by show (69621 : Nat) < _; omega), ?_⟩
  repeat refine go ?_
  refine ⟨by omega, ?_⟩
  have z0 : 0 ≤ y * 69621 % 2147483647 := Int.emod_nonneg _ (by omega)
  have z1 : y * 69621 % 2147483647 < 2147483647 := Int.emod_lt_of_pos _ (by omega)
  obtain ⟨m, hm⟩ := Int.eq_ofNat_of_zero_le z0
  rw [hm]
  exact fin (q m (by omega))
theorem l_take {d m : Nat} [h : At g st (.lst [.int d])] (hm : 0 < m) (hm2 : m < 2 ^ 900) (hk : 1 ≤ k) (q : Q (.int ((d % m : Nat) : Int)) (gu g st (.lst [.int ((d / m : Nat) : Int)]))) : Gam kl bs defs k 202 [.ref st, .int m] g Q E := by
  obtain ⟨k, rfl⟩ : ∃ j, k = j + 1 := ⟨k - 1, by omega⟩
  refine gam_of ld.h202 rfl ?_
  show b_law_take _ _ [some (.ref st), some (.int m), none] _
  unfold b_law_take
  repeat refine go ?_
  refine ⟨.int d, rfl, ?_⟩
  repeat refine go ?_
  refine ⟨by omega, ?_⟩
  repeat refine go ?_
  refine ⟨.int d, rfl, ?_⟩
  have hl := log_lt hm2 (by omega)
  repeat refine go ?_
  refine ⟨⟨by omega, by rw [Int.natAbs_natCast]; omega⟩, ?_⟩
  repeat refine go ?_
  refine ⟨st, rfl, .inl ⟨[.int d], 0, 0, rfl, h.h, rfl, ?_⟩⟩
  repeat refine go ?_
  have e1 : ((d : Int) / (m : Int)) = ((d / m : Nat) : Int) := by rw [Int.natCast_ediv]
  have e2 : ((d : Int) % (m : Int)) = ((d % m : Nat) : Int) := by rw [Int.natCast_emod]
  rw [e1, e2]
  exact ⟨_, Sub.refl _, q⟩
theorem l_own {c : Int} {i : Nat} (hi : i < 900) (hk : 2 ≤ k) (q : ∀ (d : Nat) (p : Addr), Fr g p → Q (.ref p) (gu g p (.lst [.int d]))) : Gam kl bs defs k 203 [.int c, .int i] g Q E := by
  obtain ⟨k, rfl⟩ : ∃ j, k = j + 1 := ⟨k - 1, by omega⟩
  refine gam_of ld.h203 rfl ?_
  show b_law_own _ _ [some (.int c), some (.int i), none, none] _
  unfold b_law_own
  have p60 : CPow 10 60 := ⟨by decide, by decide, by decide +kernel⟩
  have p18 : CPow 10 18 := ⟨by decide, by decide, by decide +kernel⟩
  have t60 : ((10 : Int) ^ (60 : Int).toNat).natAbs < 2 ^ 20000 := by decide +kernel
  have big : (2 : Nat) ^ 20000 > 2 ^ 100 := by decide +kernel
  have b100 : (2 : Nat) ^ 100 = 1267650600228229401496703205376 := by decide +kernel
  repeat refine go ?_
  refine ⟨p60, ?_⟩
  repeat refine go ?_
  refine ⟨p60, ?_⟩
  repeat refine go ?_
  refine ⟨cmulw t60 t60, ?_⟩
  repeat refine go ?_
  have h120 : (0 : Int) < 10 ^ (60 : Int).toNat * 10 ^ (60 : Int).toNat := by decide +kernel
  refine ⟨h120, ?_⟩
  have c0 := Int.emod_nonneg c (show (10 : Int) ^ (60 : Int).toNat * 10 ^ (60 : Int).toNat ≠ 0 by omega)
  generalize c % (10 ^ (60 : Int).toNat * 10 ^ (60 : Int).toNat) = x at *
  obtain ⟨n, rfl⟩ := nat_of c0
  repeat refine go ?_
  refine ⟨p18, ?_⟩
  repeat refine go ?_
  by_cases hb : (10 : Int) ^ (18 : Int).toNat ≤ (n : Int)
  · refine ifD hb ?_
    repeat refine go ?_
    refine ⟨by simp [sizeLine], fun p fp => ?_⟩
    exact fin (q n p fp)
  · refine ifDn hb ?_
    repeat refine go ?_
    refine ⟨by omega, by omega, ?_⟩
    show forR _ _ _ _ _ (.rng 0 1 12) _
    refine ⟨fun j s g2 => j ≤ 12 ∧ ∃ (f : Nat) (v : Option V), f < 2147483648 ^ j ∧ s = [some (.int n), some (.int i), some (.int f), v] ∧ g2 = g, ⟨by omega, 0, none, by omega, rfl, rfl⟩, ?_⟩
    rintro j s g2 ⟨hj, f, v, hf, rfl, rfl⟩
    refine ⟨trivial, ?_⟩
    show if j < 12 then _ else _
    by_cases hlt : j < 12
    · rw [if_pos hlt]
      refine go ?_
      have ej : (0 + (j : Int) * 1) = (j : Int) := by omega
      rw [ej]
      have hf2 : f < 2 ^ 20000 := Nat.lt_of_lt_of_le hf (by
        have : (2147483648 : Nat) ^ j ≤ 2147483648 ^ 12 := Nat.pow_le_pow_right (by omega) (by omega)
        have h2 : (2147483648 : Nat) ^ 12 < 2 ^ 20000 := by decide +kernel
        omega)
      repeat refine go ?_
      refine ⟨cmulw (by rw [Int.natAbs_natCast]; exact hf2) (by show (2147483647 : Nat) < _; omega), ?_⟩
      repeat refine go ?_
      refine ⟨cmulw (by show (1009 : Nat) < _; omega) (by rw [Int.natAbs_natCast]; omega), ?_⟩
      repeat refine go ?_
      refine l_mixed (by omega) (by omega) fun m hm => ?_
      repeat refine go ?_
      refine ⟨_, Sub.refl _, by omega, f * 2147483647 + m, some (.int j), ?_, ?_, rfl⟩
      · rw [Nat.pow_succ]
        omega
      · rw [Int.natCast_add, Int.natCast_mul]; rfl
    · rw [if_neg hlt]
      dsimp only
      repeat refine go ?_
      refine ⟨by simp [sizeLine], fun p fp => ?_⟩
      exact fin (q f p fp)
/-- the signs to draw from -/
structure SgOk (x : Str) : Prop where
  pl : plainB x = true
  h1 : 1 ≤ sz x
  h2 : sz x ≤ 200
theorem l_signs {i : Nat} (hi : i < 4) (hk : 1 ≤ k) (q : ∀ x : Str, SgOk x → Q (.str x) g) : Gam kl bs defs k 204 [.int i] g Q E := by
  obtain ⟨k, rfl⟩ : ∃ j, k = j + 1 := ⟨k - 1, by omega⟩
  refine gam_of ld.h204 rfl ?_
  show b_law_signs _ _ [some (.int i), none] _
  unfold b_law_signs
  repeat first | refine go ?_ | refine And.intro (by decide +kernel) ?_
  intro p fp
  repeat refine go ?_
  match i, hi with
  | 0, _ => exact ⟨_, rfl, fin (q _ ⟨by decide +kernel, by decide +kernel, by decide +kernel⟩)⟩
  | 1, _ => exact ⟨_, rfl, fin (q _ ⟨by decide +kernel, by decide +kernel, by decide +kernel⟩)⟩
  | 2, _ => exact ⟨_, rfl, fin (q _ ⟨by decide +kernel, by decide +kernel, by decide +kernel⟩)⟩
  | 3, _ => exact ⟨_, rfl, fin (q _ ⟨by decide +kernel, by decide +kernel, by decide +kernel⟩)⟩
theorem l_plain {d most : Nat} [h : At g st (.lst [.int d])] (hm : most < 100000) (hk : 2 ≤ k) (q : ∀ (x : Str) (d' : Nat), plainB x = true → sz x ≤ most → Q (.str x) (gu g st (.lst [.int d']))) : Gam kl bs defs k 205 [.ref st, .int most] g Q E := by
  obtain ⟨k, rfl⟩ : ∃ j, k = j + 1 := ⟨k - 1, by omega⟩
  refine gam_of ld.h205 rfl ?_
  show b_law_plain _ _ [some (.ref st), some (.int most), none, none, none] _
  unfold b_law_plain
  have big : (2 : Nat) ^ 900 > 2 ^ 100 := by decide +kernel
  have b100 : (2 : Nat) ^ 100 = 1267650600228229401496703205376 := by decide +kernel
  have hs : sizeLine = 16777216 := rfl
  repeat refine go ?_
  refine l_take (m := 4) (by omega) (by omega) (by omega) ?_
  repeat refine go ?_
  refine l_signs (Nat.mod_lt _ (by omega)) (by omega) fun sg ok => ?_
  repeat refine go ?_
  have em : ((most : Int) + 1) = ((most + 1 : Nat) : Int) := by omega
  rw [em]
  refine l_take (by omega) (by omega) (by omega) ?_
  rw [gu_gu]
  repeat refine go ?_
  generalize hn : d / 4 % (most + 1) = n
  have hn2 : n ≤ most := by have := Nat.mod_lt (d / 4) (show 0 < most + 1 by omega); omega
  refine ⟨by omega, by omega, ?_⟩
  rw [Int.toNat_natCast]
  refine ⟨fun j s g2 => j ≤ n ∧ ∃ (d' : Nat) (x : Str) (v : Option V), plainB x = true ∧ sz x ≤ j ∧ s = [some (.ref st), some (.int most), some (.str sg), some (.str x), v] ∧ g2 = gu g st (.lst [.int d']), ⟨by omega, _, _, none, by decide +kernel, by decide +kernel, rfl, rfl⟩, ?_⟩
  rintro j s g2 ⟨hj, d', x, v, hx, hx2, rfl, rfl⟩
  refine ⟨trivial, ?_⟩
  show if j < n then _ else _
  have l1 : x.length = sz x := rfl
  have l2 : sg.length = sz sg := rfl
  have k1 := ok.h1
  have k2 := ok.h2
  by_cases hlt : j < n
  · rw [if_pos hlt]
    refine go ?_
    have ej : (0 + (j : Int) * 1) = (j : Int) := by omega
    rw [ej]
    repeat refine go ?_
    refine ⟨by omega, ?_⟩
    repeat refine go ?_
    rw [show ((sg.length : Nat) : Int) = ((sz sg : Nat) : Int) from rfl]
    refine l_take (by omega) (by omega) (by omega) ?_
    rw [gu_gu]
    have hi : d' % sz sg < sg.cps.toList.length := by
      have := Nat.mod_lt d' (show 0 < sz sg by omega)
      have e : sg.cps.toList.length = sz sg := by simp
      omega
    refine ⟨_, _, rfl, by omega, atI_nat hi, ?_⟩
    have lc : (⟨#[sg.cps.toList[d' % sz sg]]⟩ : Str).length = 1 := rfl
    repeat refine go ?_
    refine ⟨by omega, ?_⟩
    repeat refine go ?_
    refine ⟨_, Sub.refl _, by omega, _, _, _, plain_cat hx ?_, ?_, rfl, rfl⟩
    · have hp := ok.pl
      unfold plainB at *
      rw [List.all_eq_true] at hp
      show ([sg.cps.toList[d' % sz sg]].all _) = true
      rw [List.all_cons, List.all_nil, Bool.and_true]
      exact hp _ (List.getElem_mem _)
    · rw [sz_cat]
      show sz x + 1 ≤ _
      omega
  · rw [if_neg hlt]
    dsimp only
    repeat refine go ?_
    exact ⟨_, Sub.refl _, q x d' hx (by omega)⟩
end
end SW
end

section
set_option Elab.async false
set_option linter.all false
set_option maxRecDepth 100000
set_option maxHeartbeats 4000000
/-! k97: the deed. -/
namespace SW
open PySem L2
set_option synthInstance.maxHeartbeats 200000
set_option synthInstance.maxSize 100000
section
variable {kl : Addr → List V → Prop} {defs : Nat → Option FDef} {g : G} {Q : VG} {E : XG} {a st : Addr} {S : Sh} [ld : LawD defs] [jd : JoD defs] [d51 : DefAt defs 51 d_built] [d57 : DefAt defs 57 d_put_in] [d58 : DefAt defs 58 d_taken_out]
/-- what a deed leaves -/
structure DeedQ (g g' : G) (a st r : Addr) (S : Sh) : Prop where
  ex : ∃ (S' : Sh) (c t' d' : Nat) (w' : List Nat), Up S S' c ∧ c ≤ 40000 ∧ Rd S' t' w' ∧ w'.length ≤ 800 ∧ plainB (strT w') = true ∧ g' a = some (.shf S') ∧ g' st = some (.lst [.int d']) ∧ g' r = some (.tup [.int t', .str (strT w')])
  off : OffL [a, st] g g'
  fr : g r = none
theorem draw {d m : Nat} {k : Nat} [h : At g st (.lst [.int d])] (hm : 0 < m) (hm2 : m < 1000000) (hk : 1 ≤ k) (q : ∀ r d' : Nat, r < m → Q (.int r) (gu g st (.lst [.int d']))) : Gam kl bsP defs k 202 [.ref st, .int m] g Q E :=
  l_take hm (by have : (2 : Nat) ^ 900 > 2 ^ 100 := by decide +kernel
                have b100 : (2 : Nat) ^ 100 = 1267650600228229401496703205376 := by decide +kernel
                omega) hk (q _ _ (Nat.mod_lt _ hm))
theorem l_deed (wf : WF S) {k t d : Nat} {w : List Nat} [ia : At g a (.shf S)] [ist : At g st (.lst [.int d])] (R : Rd S t w) (hw : w.length ≤ 800) (pw : plainB (strT w) = true) (room : S.length + 60000 < sizeLine) (hk : 103 ≤ k)
    (q : ∀ g' r, DeedQ g g' a st r S → Q (.ref r) g') : Gam kl bsP defs k 206 [.ref a, .int t, .str (strT w), .ref st] g Q E := by
  obtain ⟨k, rfl⟩ : ∃ j, k = j + 1 := ⟨k - 1, by omega⟩
  refine gam_of ld.h206 rfl ?_
  show b_law_deed _ _ [some (.ref a), some (.int t), some (.str (strT w)), some (.ref st), none, none, none, none, none] _
  unfold b_law_deed
  have hs : sizeLine = 16777216 := rfl
  have lw := strT_len w
  haveI n1 : NeA a st := NeA.of_at ia ist (fun z => nomatch z)
  haveI n2 := n1.symm
  repeat refine go ?_
  refine draw (m := 4) (by omega) (by omega) (by omega) fun kd d1 hkd => ?_
  repeat refine go ?_
  refine ⟨by simp [sizeLine], fun p fp => ?_⟩
  haveI m1 : NeA st p := NeA.of_fr (g := gu g st (.lst [.int d1])) inferInstance fp
  haveI m2 := m1.symm
  repeat refine go ?_
  refine draw (m := 3) (by omega) (by omega) (by omega) fun ix d2 hix => ?_
  repeat refine go ?_
  obtain ⟨most, em, hmost⟩ : ∃ most : Nat, atI [V.int 3, V.int 9, V.int 30] (ix : Int) = some (.int most) ∧ most ≤ 30 := by
    match ix, hix with
    | 0, _ => exact ⟨3, rfl, by omega⟩
    | 1, _ => exact ⟨9, rfl, by omega⟩
    | 2, _ => exact ⟨30, rfl, by omega⟩
  refine ⟨_, em, ?_⟩
  repeat refine go ?_
  refine l_plain (by omega) (by omega) fun x d3 px hx => ?_
  have o1 : OffL [a, st] g (gu (gu (gu (gu g st (.lst [.int d1])) p (.lst [.int 3, .int 9, .int 30])) st (.lst [.int d2])) st (.lst [.int d3])) := fun b o hb hbo => by
    have hbs : b ≠ st := fun z => hb (by rw [z]; simp)
    rw [gun hbs, gun hbs]
    refine Sub.new fp.h b o ?_
    rw [gun hbs]; exact hbo
  have ga : (gu (gu (gu (gu g st (.lst [.int d1])) p (.lst [.int 3, .int 9, .int 30])) st (.lst [.int d2])) st (.lst [.int d3])) a = some (.shf S) := by
    rw [gun n1.h, gun n1.h]
    refine Sub.new fp.h a _ ?_
    rw [gun n1.h]; exact ia.h
  have gs : (gu (gu (gu (gu g st (.lst [.int d1])) p (.lst [.int 3, .int 9, .int 30])) st (.lst [.int d2])) st (.lst [.int d3])) st = some (.lst [.int d3]) := gus
  generalize (gu (gu (gu (gu g st (.lst [.int d1])) p (.lst [.int 3, .int 9, .int 30])) st (.lst [.int d2])) st (.lst [.int d3])) = g1 at *
  haveI j1 : At g1 a _ := ⟨ga⟩
  haveI j2 : At g1 st _ := ⟨gs⟩
  obtain ⟨ot, S1, c1, e1, gd1, hc1⟩ := s_bu (n := 20) wf px (by omega) (by omega) (by omega)
  have up1 := gd1.up
  have len1 := up1.len
  have R1 := R.up up1
  repeat refine go ?_
  refine w_bu e1 (by omega) ?_
  have o2 : OffL [a, st] g (gu g1 a (.shf S1)) := fun b o hb hbo => by
    rw [gun (fun z => hb (by rw [z]; simp))]; exact o1 b o hb hbo
  have ga2 : (gu g1 a (.shf S1)) a = some (.shf S1) := gus
  have gs2 : (gu g1 a (.shf S1)) st = some (.lst [.int d3]) := by rw [gun n2.h]; exact gs
  generalize (gu g1 a (.shf S1)) = g2 at *
  haveI j3 : At g2 a _ := ⟨ga2⟩
  haveI j4 : At g2 st _ := ⟨gs2⟩
  repeat refine go ?_
  refine ⟨by omega, ?_⟩
  repeat refine go ?_
  have ew : ((strT w).length : Int) + 1 = ((w.length + 1 : Nat) : Int) := by omega
  rw [ew]
  refine draw (m := w.length + 1) (by omega) (by omega) (by omega) fun at_ d4 hat => ?_
  haveI j5 : At (gu g2 st (.lst [.int d4])) st (.lst [.int d4]) := ⟨gus⟩
  repeat refine go ?_
  refine ⟨by omega, ?_⟩
  repeat refine go ?_
  have ew2 : ((strT w).length : Int) - (at_ : Int) + 1 = ((w.length - at_ + 1 : Nat) : Int) := by omega
  rw [ew2]
  refine draw (m := w.length - at_ + 1) (by omega) (by omega) (by omega) fun n d5 hn => ?_
  rw [gu_gu]
  have o3 : OffL [a, st] g (gu g2 st (.lst [.int d5])) := fun b o hb hbo => by
    rw [gun (fun z => hb (by rw [z]; simp))]; exact o2 b o hb hbo
  have ga3 : (gu g2 st (.lst [.int d5])) a = some (.shf S1) := by rw [gun n1.h]; exact ga2
  have gs3 : (gu g2 st (.lst [.int d5])) st = some (.lst [.int d5]) := gus
  generalize (gu g2 st (.lst [.int d5])) = g3 at *
  haveI j6 : At g3 a _ := ⟨ga3⟩
  haveI j7 : At g3 st _ := ⟨gs3⟩
  have ee : (at_ : Int) + (n : Int) = ((at_ + n : Nat) : Int) := by omega
  have lx : x.length = sz x := rfl
  have lxl : x.cps.toList.length = sz x := tl_len' x
  have ex : strT x.cps.toList = x := strT_tl x
  have hpt := hp_le up1.wf R1.le
  have hpo := hp_le up1.wf gd1.r1
  have bigw : (1000000000000000000 : Nat) > 1000000 := by decide
  -- the end
  have fin2 : ∀ {S2 : Sh} {c2 r2 : Nat} {w2 : List Nat}, Gd S1 S2 c2 r2 w2 → c2 ≤ 30000 → w2.length ≤ 800 → plainB (strT w2) = true → ∀ p, (gu g3 a (.shf S2)) p = none → Q (.ref p) (gu (gu g3 a (.shf S2)) p (.tup [.int r2, .str (strT w2)])) := by
    intro S2 c2 r2 w2 gd2 hc2 hw2 pw2 p hp
    have hpa : p ≠ a := fun z => by rw [z, gus] at hp; cases hp
    have hps : p ≠ st := fun z => by rw [z, gun n2.h, gs3] at hp; cases hp
    refine q _ p ⟨⟨S2, c1 + c2, r2, d5, w2, up1.trans gd2.up, by omega, gd2.rdT, hw2, pw2, ?_, ?_, gus⟩, fun b o hb hbo => ?_, ?_⟩
    · rw [gun hpa.symm, gus]
    · rw [gun hps.symm, gun n2.h]; exact gs3
    · refine Sub.new hp b o ?_
      rw [gun (fun z => hb (by rw [z]; simp))]; exact o3 b o hb hbo
    · cases hz : g p with
      | none => rfl
      | some o =>
        have := o3 p o (by simp [hpa, hps]) hz
        rw [gun hpa] at hp
        rw [hp] at this; cases this
  repeat refine go ?_
  rw [ee]
  repeat refine go ?_
  have pto : ∀ m, plainB (strT (w.take m)) = true := fun m => plain_take pw
  have pdr : ∀ m, plainB (strT (w.drop m)) = true := fun m => by
    unfold plainB at *
    rw [tl_strT] at *
    rw [List.all_eq_true] at *
    exact fun c hc => pw c (List.mem_of_mem_drop hc)
  have sto : ∀ m : Nat, cutS (strT w) none (some (m : Int)) = strT (w.take m) := fun m => by rw [cutS_to, tl_strT]; rfl
  have sfr : ∀ m : Nat, cutS (strT w) (some (m : Int)) none = strT (w.drop m) := fun m => by rw [cutS_from, tl_strT]; rfl
  have hup := up1.ge
  have take : (sRet (eTup (lCons (eFn 58 (lCons (eV 0) (lCons (eV 1) (lCons (eV 7) (lCons (eV 8) lNil))))) (lCons (eBin .Add (eSl (eV 2) oNone (oSome (eV 7))) (eSl (eV 2) (oSome (eV 8)) oNone)) lNil)))) ⟨kl, Gam kl bsP defs k, fun e x g' => ∃ g'', Sub g'' g' ∧ E e g''⟩ ⟨fun _ _ => True, fun v g' => ∃ g'', Sub g'' g' ∧ Q v g'', fun _ _ => True, fun _ _ => True⟩ [some (.ref a), some (.int t), some (.str (strT w)), some (.ref st), some (.int kd), some (.str x), some (.int ot), some (.int at_), some (.int (at_ + n : Nat))] g3 := by
    obtain ⟨r2, S2, c2, e2, gd2, hc2⟩ := s_tk (n := 85) (b := at_) (e := at_ + n) up1.wf R1.le (Nat.le_refl _) (by omega) (by rw [R1.rd]; omega) (by omega)
    rw [R1.rd] at gd2
    repeat refine go ?_
    refine w_tk (k := k) e2 (by omega) ?_
    repeat refine go ?_
    refine ⟨by omega, ?_⟩
    rw [sto]
    repeat refine go ?_
    refine ⟨by omega, ?_⟩
    rw [sfr]
    repeat refine go ?_
    have lt := strT_len (w.take at_)
    have ld' := strT_len (w.drop (at_ + n))
    rw [List.length_take] at lt
    rw [List.length_drop] at ld'
    refine ⟨by omega, ?_⟩
    rw [← strT_app]
    repeat refine go ?_
    refine ⟨by simp [sizeLine], fun p fp => ?_⟩
    exact ⟨_, Sub.refl _, fin2 gd2 (by omega) (by rw [List.length_append, List.length_take, List.length_drop]; omega) (plain_app (pto _) (pdr _)) p fp.h⟩
  by_cases k3 : kd = 3
  · refine ifD (by omega) ?_
    refine ifT ?_
    refine go ?_
    exact take
  · refine ifDn (by omega) ?_
    repeat refine go ?_
    refine ⟨by omega, ?_⟩
    repeat refine go ?_
    refine ⟨by omega, ?_⟩
    repeat refine go ?_
    by_cases kb : 800 < w.length + sz x
    · refine ifD (by omega) ?_
      refine go ?_
      exact take
    · refine ifDn (by omega) ?_
      have px' : plainB (strT x.cps.toList) = true := by rw [ex]; exact px
      have hro : rd S1 ot = x.cps.toList := gd1.rd
      repeat refine go ?_
      by_cases k0 : kd = 0
      · refine ifD (by omega) ?_
        obtain ⟨r2, S2, c2, e2, gd2, hc2, _⟩ := s_joT (n := 85) up1.wf R1.le gd1.r1 (by omega) (by rw [R1.rd, hro]; omega) (by omega)
        rw [R1.rd, hro] at gd2
        repeat refine go ?_
        refine w_jo (k := k) e2 (by omega) ?_
        repeat refine go ?_
        refine ⟨by omega, ?_⟩
        rw [show strT w ++ x = strT (w ++ x.cps.toList) by rw [strT_app, ex]]
        repeat refine go ?_
        refine ⟨by simp [sizeLine], fun p fp => ?_⟩
        exact ⟨_, Sub.refl _, fin2 gd2 (by omega) (by rw [List.length_append]; omega) (plain_app pw px') p fp.h⟩
      · refine ifDn (by omega) ?_
        repeat refine go ?_
        by_cases k1 : kd = 1
        · refine ifD (by omega) ?_
          obtain ⟨r2, S2, c2, e2, gd2, hc2, _⟩ := s_joT (n := 85) up1.wf gd1.r1 R1.le (by omega) (by rw [R1.rd, hro]; omega) (by omega)
          rw [R1.rd, hro] at gd2
          repeat refine go ?_
          refine w_jo (k := k) e2 (by omega) ?_
          repeat refine go ?_
          refine ⟨by omega, ?_⟩
          rw [show x ++ strT w = strT (x.cps.toList ++ w) by rw [strT_app, ex]]
          repeat refine go ?_
          refine ⟨by simp [sizeLine], fun p fp => ?_⟩
          exact ⟨_, Sub.refl _, fin2 gd2 (by omega) (by rw [List.length_append]; omega) (plain_app px' pw) p fp.h⟩
        · refine ifDn (by omega) ?_
          obtain ⟨r2, S2, c2, e2, gd2, hc2⟩ := s_pi (n := 85) (at_ := at_) up1.wf R1.le gd1.r1 (by omega) (by rw [R1.rd]; omega) (by rw [R1.rd, hro]; omega) (by omega)
          rw [R1.rd, hro] at gd2
          have lt := strT_len (w.take at_)
          have ld' := strT_len (w.drop at_)
          rw [List.length_take] at lt
          rw [List.length_drop] at ld'
          have la := strT_len (w.take at_ ++ x.cps.toList)
          rw [List.length_append, List.length_take] at la
          repeat refine go ?_
          refine w_pi (k := k) e2 (by omega) ?_
          repeat refine go ?_
          refine ⟨by omega, ?_⟩
          rw [sto]
          repeat refine go ?_
          refine ⟨by omega, ?_⟩
          rw [show strT (w.take at_) ++ x = strT (w.take at_ ++ x.cps.toList) by rw [strT_app, ex]]
          repeat refine go ?_
          refine ⟨by omega, ?_⟩
          rw [sfr]
          repeat refine go ?_
          refine ⟨by omega, ?_⟩
          rw [← strT_app]
          repeat refine go ?_
          refine ⟨by simp [sizeLine], fun p fp => ?_⟩
          exact ⟨_, Sub.refl _, fin2 gd2 (by omega) (by rw [List.length_append, List.length_append, List.length_take, List.length_drop]; omega) (plain_app (plain_app (pto _) px') (pdr _)) p fp.h⟩
end
end SW
end

section
set_option Elab.async false
set_option linter.all false
set_option maxRecDepth 100000
set_option maxHeartbeats 4000000
/-! k97: held together. -/
namespace SW
open PySem L2
set_option synthInstance.maxHeartbeats 200000
set_option synthInstance.maxSize 100000
section
variable {kl : Addr → List V → Prop} {defs : Nat → Option FDef} {g : G} {Q : VG} {E : XG} {a st : Addr} {S : Sh} [ld : LawD defs] [jd : JoD defs] [d1 : DefAt defs 1 d_is_whole] [d2 : DefAt defs 2 d_is_plain] [d24 : DefAt defs 24 d_lies_in] [d25 : DefAt defs 25 d_way_and_place] [d26 : DefAt defs 26 d_way_to] [d27 : DefAt defs 27 d_way_stands] [d28 : DefAt defs 28 d_sign_at] [d60 : DefAt defs 60 d_Front___init__] [d61 : DefAt defs 61 d_Front_is_over] [d62 : DefAt defs 62 d_Front_next_text] [d63 : DefAt defs 63 d_Front_opened] [d64 : DefAt defs 64 d_Front_next_signs] [d65 : DefAt defs 65 d_Front_go_on] [d66 : DefAt defs 66 d_Front_by_piece] [d67 : DefAt defs 67 d_Front_by_signs] [d68 : DefAt defs 68 d_is_plain_item] [d69 : DefAt defs 69 d_spell_on] [d70 : DefAt defs 70 d_spells] [d71 : DefAt defs 71 d_begins_text] [d72 : DefAt defs 72 d_items_signs] [d89 : DefAt defs 89 d_sign_behind] [d90 : DefAt defs 90 d_told_stands] [d78 : DefAt defs 78 d_Reader___init__] [d79 : DefAt defs 79 d_Reader_is_over] [d80 : DefAt defs 80 d_Reader_next_piece] [d81 : DefAt defs 81 d_Reader_passed] [d82 : DefAt defs 82 d_Reader_opened] [d83 : DefAt defs 83 d_Reader_next_sign] [d84 : DefAt defs 84 d_Reader_gone] [d85 : DefAt defs 85 d_in_common] [d86 : DefAt defs 86 d_opened_one] [d87 : DefAt defs 87 d_with_signs] [d88 : DefAt defs 88 d_held_together]
theorem Told.sub {S : Sh} {t u : Nat} {g g' : G} {tp : Addr} (s : Sub g g') (h : Told S t u g tp) : Told S t u g' tp := by
  cases h with
  | alike h i s1 s2 => exact .alike (s _ _ h) (s _ _ i) s1 s2
  | apart h i s1 s2 ex ey ne => exact .apart (s _ _ h) (s _ _ i) s1 s2 ex ey ne
theorem l_held (wf : WF S) {k t u : Nat} {w v : List Nat} [ia : At g a (.shf S)] (R : Rd S t w) (R2 : Rd S u v) (hw : w.length ≤ 800) (hv : v.length ≤ 800) (hk : 20 ≤ k) (q : ∀ g', Sub g g' → Q (.bl true) g') : Gam kl bsP defs k 209 [.ref a, .int t, .str (strT w), .int u, .str (strT v)] g Q E := by
  obtain ⟨k, rfl⟩ : ∃ j, k = j + 1 := ⟨k - 1, by omega⟩
  refine gam_of ld.h209 rfl ?_
  show b_law_held _ _ [some (.ref a), some (.int t), some (.str (strT w)), some (.int u), some (.str (strT v)), none] _
  unfold b_law_held
  have hs : sizeLine = 16777216 := rfl
  repeat refine go ?_
  refine w_held (k := k) wf R.le R2.le (by rw [R.rd]; omega) (by rw [R2.rd]; omega) (by omega) fun g1 tp s1 T => ?_
  haveI i1 : At g1 a _ := ⟨s1 _ _ ia.h⟩
  cases T with
  | @alike li is h i sp1 sp2 =>
    have ew : w = v := by
      rw [← R.rd, ← R2.rd, ← st0_fl, ← st0_fl (t := u), sp1.fl, sp2.fl]
    haveI i2 : At g1 tp _ := ⟨h⟩
    repeat refine go ?_
    refine ⟨_, h, ?_⟩
    repeat refine go ?_
    refine w_tstA (k := k) wf sp1 sp2 i h R.le R2.le (by rw [R.rd]; omega) (by rw [R2.rd]; omega) (by omega) fun g2 s2 => ?_
    haveI i3 : At g2 tp _ := ⟨s2 _ _ h⟩
    repeat refine go ?_
    refine .inr ⟨true, true, rfl, rfl, ?_⟩
    repeat refine go ?_
    refine ⟨_, rfl, ?_⟩
    repeat refine go ?_
    refine ⟨_, rfl, ?_⟩
    repeat refine go ?_
    refine ⟨by simp [sizeLine], fun p fp => ?_⟩
    repeat refine go ?_
    rw [decide_eq_true (show strT w = strT v by rw [ew])]
    repeat refine go ?_
    refine ⟨_, rfl, ?_⟩
    repeat refine go ?_
    refine ⟨_, Sub.refl _, q _ ((s1.trans s2).trans (Sub.new fp.h))⟩
  | @apart li is A B x y h i sp1 sp2 ex ey ne =>
    have ew : w ≠ v := fun z => by
      have e1 : itsR S is ++ fl S A = itsR S is ++ fl S B := by
        rw [← sp1.fl, ← sp2.fl, st0_fl, st0_fl, R.rd, R2.rd, z]
      have e2 := List.append_cancel_left e1
      rw [e2, ey] at ex
      exact ne ex.symm
    haveI i2 : At g1 tp _ := ⟨h⟩
    repeat refine go ?_
    refine ⟨_, h, ?_⟩
    repeat refine go ?_
    refine w_tstB (k := k) wf sp1 sp2 i h R.le R2.le (by rw [R.rd]; omega) (by rw [R2.rd]; omega) ex ey ne (by omega) fun g2 s2 => ?_
    haveI i3 : At g2 tp _ := ⟨s2 _ _ h⟩
    repeat refine go ?_
    refine .inr ⟨true, true, rfl, rfl, ?_⟩
    repeat refine go ?_
    refine ⟨_, rfl, ?_⟩
    repeat refine go ?_
    refine ⟨_, rfl, ?_⟩
    repeat refine go ?_
    refine ⟨by simp [sizeLine], fun p fp => ?_⟩
    repeat refine go ?_
    rw [decide_eq_false (show ¬ strT w = strT v from fun z => ew (strT_inj z))]
    repeat refine go ?_
    refine ⟨_, rfl, ?_⟩
    repeat refine go ?_
    refine ⟨_, Sub.refl _, q _ ((s1.trans s2).trans (Sub.new fp.h))⟩
end
end SW
end

section
set_option Elab.async false
set_option linter.all false
set_option maxRecDepth 100000
set_option maxHeartbeats 4000000
/-! k97: words. -/
namespace SW
open PySem L2
set_option synthInstance.maxHeartbeats 200000
set_option synthInstance.maxSize 100000
def b_wtail : TSt := sSeq (sAsg (eLc (iRng1 (eBi .len (lCons (eV 2) lNil))) (gN 8) (tBl (eCmp .Eq (eSl (eV 2) (oSome (eV 8)) (oSome (eBin .Add (eV 8) (eBi .len (lCons (eV 4) lNil))))) (eV 4))) (eV 8) [8]) (gN 6)) (sSeq (sIf (tBl (eCmp .NotEq (eFn 98 (lCons (eV 0) (lCons (eV 1) (lCons (eV 4) lNil)))) (eBi .len (lCons (eV 6) lNil)))) (sSeq (sRet (eC (.bl false))) sNext) sNext) (sSeq (sIf (tBl (eCmp .Eq (eV 6) (eLst lNil))) (sSeq (sRet (eC (.bl true))) sNext) sNext) (sSeq (sAsg (eLst (lCons (eFn 99 (lCons (eV 0) (lCons (eV 1) (lCons (eV 4) (lCons (eC (.int 0)) lNil))))) (lCons (eFn 99 (lCons (eV 0) (lCons (eV 1) (lCons (eV 4) (lCons (eBin .Sub (eBi .len (lCons (eV 6) lNil)) (eC (.int 1))) lNil))))) lNil))) (gN 7)) (sSeq (sRet (eCmp .Eq (eV 7) (eLst (lCons (eIx (eV 6) (eC (.int 0))) (lCons (eIx (eV 6) (eNeg (eC (.int 1)))) lNil))))) sNext))))
theorem b_words_eq : b_law_words = sSeq (sAsg (eBin .Add (eFn 205 (lCons (eV 3) (lCons (eC (.int 7)) lNil))) (eC (.str "a"))) (gN 4)) (sSeq (sAsg (eFn 202 (lCons (eV 3) (lCons (eBin .Add (eBi .len (lCons (eV 2) lNil)) (eC (.int 1))) lNil))) (gN 5)) (sSeq (sIf (tAnd (tBl (eCmp .Lt (eV 5) (eBi .len (lCons (eV 2) lNil)))) (tBl (eCmp .Gt (eFn 202 (lCons (eV 3) (lCons (eC (.int 4)) lNil))) (eC (.int 0))))) (sSeq (sAsg (eSl (eV 2) (oSome (eV 5)) (oSome (eBin .Add (eBin .Add (eV 5) (eC (.int 1))) (eFn 202 (lCons (eV 3) (lCons (eC (.int 8)) lNil)))))) (gN 4)) sNext) sNext) b_wtail)) := rfl
theorem draw' {kl : Addr → List V → Prop} {defs : Nat → Option FDef} {g : G} {Q : VG} {E : XG} {st : Addr} [ld : LawD defs] {d m : Nat} {k : Nat} [h : At g st (.lst [.int d])] (hm : 0 < m) (hm2 : m < 1000000) (hk : 1 ≤ k) (q : ∀ r d' : Nat, r < m → Q (.int r) (gu g st (.lst [.int d']))) : Gam kl bsP defs k 202 [.ref st, .int m] g Q E :=
  l_take hm (by have : (2 : Nat) ^ 900 > 2 ^ 100 := by decide +kernel
                have b100 : (2 : Nat) ^ 100 = 1267650600228229401496703205376 := by decide +kernel
                omega) hk (q _ _ (Nat.mod_lt _ hm))
section
variable {kl : Addr → List V → Prop} {defs : Nat → Option FDef} {g : G} {Q : VG} {E : XG} {a st : Addr} {S : Sh} [ld : LawD defs] [jd : JoD defs] [d2 : DefAt defs 2 d_is_plain] [d91 : DefAt defs 91 d_look_at_word] [d93 : DefAt defs 93 d_Finder___init__] [d92 : DefAt defs 92 d_places_in] [d94 : DefAt defs 94 d_Finder_ends_of] [d95 : DefAt defs 95 d_Finder_seam] [d96 : DefAt defs 96 d_Finder_often] [d97 : DefAt defs 97 d_Finder_place] [d98 : DefAt defs 98 d_count_of] [d99 : DefAt defs 99 d_place_of]
theorem h_wtail (wf : WF S) {k t : Nat} {w p : List Nat} {x3 x5 : Option V} [ia : At g a (.shf S)] (R : Rd S t w) (hw : w.length ≤ 800) (h1 : 1 ≤ p.length) (h8 : p.length ≤ 8) (pp : plainB (strT p) = true) (room : S.length + 4 < sizeLine) (hk : 100 ≤ k) (q : ∀ g', Sub g g' → Q (.bl true) g') :
    b_wtail ⟨kl, Gam kl bsP defs k, fun e x g' => ∃ g'', Sub g'' g' ∧ E e g''⟩ ⟨fun x g' => ∃ g'', Sub g'' g' ∧ Q V.non g'', fun v g' => ∃ g'', Sub g'' g' ∧ Q v g'', fun _ _ => False, fun _ _ => False⟩ [some (.ref a), some (.int t), some (.str (strT w)), x3, some (.str (strT p)), x5, none, none, none] g := by
  unfold b_wtail
  have hs : sizeLine = 16777216 := rfl
  have ly := strT_len w
  have lp := strT_len p
  have tp := tl_strT p
  have zp := sz_strT p
  repeat refine go ?_
  refine ⟨by omega, ?_⟩
  repeat refine go ?_
  refine ⟨by omega, by omega, ?_⟩
  rw [Int.toNat_natCast, ly]
  refine lc_of (fun i => if ocP w p i = true then some (nV i) else none) (by show w.length ≤ _; omega) (fun _ _ _ => trivial) (fun D i hD hi KY KN hyy hn => ?_) (fun D hD => ?_)
  · have hi2 : i < w.length := hi
    refine go ?_
    have ei : (0 : Int) + (i : Nat) * 1 = (i : Int) := by omega
    rw [ei]
    show (gN 8) _ _ [some (.ref a), some (.int t), some (.str (strT w)), x3, some (.str (strT p)), x5, none, none, none] _ _
    repeat refine go ?_
    refine ⟨rfl, ?_⟩
    repeat refine go ?_
    refine ⟨by omega, ?_⟩
    repeat refine go ?_
    have ee : (i : Int) + ((strT p).length : Int) = ((i + p.length : Nat) : Int) := by omega
    rw [ee]
    refine ⟨by omega, ?_⟩
    rw [cutS_ab (by show i ≤ sz (strT w); rw [sz_strT]; omega)]
    repeat refine go ?_
    have e1 : (⟨(((strT w).cps.toList.drop i).take (i + p.length - i)).toArray⟩ : Str) = strT ((w.drop i).take p.length) := by
      rw [tl_strT, Nat.add_sub_cancel_left]; rfl
    rw [e1]
    by_cases ho : ocP w p i = true
    · have ho2 := of_decide_eq_true (show decide _ = true from ho)
      refine ifD (by rw [ho2]) ?_
      repeat refine go ?_
      exact hyy _ _ (by rw [if_pos ho]) (Sub.refl _)
    · have ho2 : ¬ (w.drop i).take p.length = p := fun z => ho (decide_eq_true z)
      refine ifDn (fun z => ho2 (strT_inj z)) ?_
      repeat refine go ?_
      exact hn _ (by rw [if_neg ho]) (Sub.refl _)
  · have en : (List.range (Sq.rng 0 1 w.length).len).filterMap (fun i => if ocP w p i = true then some (nV i) else none) = (occL w p).map nV := by
      show (List.range w.length).filterMap _ = _
      unfold occL
      generalize List.range w.length = l
      induction l with
      | nil => rfl
      | cons z l ih =>
        rw [List.filterMap_cons, List.filter_cons, ih]
        by_cases hz : ocP w p z = true
        · rw [if_pos hz, if_pos hz]; rfl
        · rw [if_neg hz, if_neg hz]
    rw [en]
    have s1 : Sub g (gu g D (.lst ((occL w p).map nV))) := Sub.new hD
    have gD : (gu g D (.lst ((occL w p).map nV))) D = some (.lst ((occL w p).map nV)) := gus
    generalize gu g D (.lst ((occL w p).map nV)) = g1 at *
    haveI j1 : At g1 D _ := ⟨gD⟩
    haveI j2 : At g1 a _ := ⟨s1 _ _ ia.h⟩
    have ol := occ_le w p
    show (gN 6) _ _ [some (.ref a), some (.int t), some (.str (strT w)), x3, some (.str (strT p)), x5, none, none, none] _ _
    repeat refine go ?_
    refine w_count (k := k) (x := strT p) wf (by omega) (by omega) pp room R.le (by omega) fun g2 s2 => ?_
    rw [R.rd, tp]
    haveI j3 : At g2 D _ := ⟨s2 _ _ gD⟩
    haveI j4 : At g2 a _ := ⟨s2 _ _ (s1 _ _ ia.h)⟩
    repeat refine go ?_
    refine ifNn (by rw [List.length_map]) ?_
    repeat refine go ?_
    refine ⟨by simp, fun e fe => ?_⟩
    have s3 : Sub g2 (gu g2 e (.lst [])) := Sub.new fe.h
    refine eq_ll' (s3 _ _ j3.h) gus (ints_ok _) rfl ?_
    have s03 := s1.trans (s2.trans s3)
    have gD3 := s3 _ _ j3.h
    generalize gu g2 e (.lst []) = g3 at *
    haveI j5 : At g3 D _ := ⟨gD3⟩
    haveI j6 : At g3 a _ := ⟨s03 _ _ ia.h⟩
    cases hocc : occL w p with
    | nil =>
      rw [show eqL (([] : List Nat).map nV) [] = true from eqL_nn]
      repeat refine go ?_
      exact ⟨_, Sub.refl _, q _ s03⟩
    | cons z zs =>
      rw [show eqL ((z :: zs).map nV) [] = false from eqL_nil]
      have h0 : 0 < t := by
        rcases Nat.eq_zero_or_pos t with e | e
        · subst e
          have := R.rd
          rw [rd_zero] at this
          rw [← this] at hocc
          cases hocc
        · exact e
      rw [hocc] at gD3 j5
      repeat refine go ?_
      refine w_placeof (k := k) (x := strT p) (j := 0) (o := z) wf (by omega) (by omega) pp room h0 R.le (by rw [R.rd, tp, hocc]; rfl) (by omega) fun g4 s4 => ?_
      haveI j7 : At g4 D (.lst ((z :: zs).map nV)) := ⟨s4 _ _ gD3⟩
      haveI j8 : At g4 a _ := ⟨s4 _ _ (s03 _ _ ia.h)⟩
      repeat refine go ?_
      have el : ((((z :: zs).map nV).length : Nat) : Int) - 1 = ((zs.length : Nat) : Int) := by rw [List.length_map, List.length_cons]; omega
      rw [el]
      obtain ⟨y, hy⟩ : ∃ y, (z :: zs)[zs.length]? = some y := ⟨_, List.getElem?_eq_getElem (by simp)⟩
      refine w_placeof (k := k) (x := strT p) (j := zs.length) (o := y) wf (by omega) (by omega) pp room h0 R.le (by rw [R.rd, tp, hocc]; exact hy) (by omega) fun g5 s5 => ?_
      haveI j9 : At g5 D (.lst ((z :: zs).map nV)) := ⟨s5 _ _ j7.h⟩
      repeat refine go ?_
      refine ⟨by simp [sizeLine], fun e1 fe1 => ?_⟩
      have s6 : Sub g5 (gu g5 e1 (.lst [nV z, nV y])) := Sub.new fe1.h
      haveI k1 : At (gu g5 e1 (.lst [nV z, nV y])) D _ := ⟨s6 _ _ j9.h⟩
      haveI k2 : At (gu g5 e1 (.lst [nV z, nV y])) e1 _ := ⟨gus⟩
      repeat refine go ?_
      refine ⟨nV z, atI_head, ?_⟩
      repeat refine go ?_
      have ey : atI ((z :: zs).map nV) (-1) = some (nV y) := by
        unfold atI ixN
        rw [if_neg (by omega), if_pos (by simp; omega)]
        have e2 : ((-1 : Int) + (((z :: zs).map nV).length : Int)).toNat = zs.length := by rw [List.length_map, List.length_cons]; omega
        show ((z :: zs).map nV)[_]? = _
        rw [e2, List.getElem?_map, hy]; rfl
      refine ⟨nV y, ey, ?_⟩
      repeat refine go ?_
      refine ⟨by simp [sizeLine], fun e2 fe2 => ?_⟩
      have s7 := Sub.new (o := .lst [nV z, nV y]) fe2.h
      refine eq_ll' (s7 _ _ k2.h) gus (ints_ok [z, y]) (ints_ok [z, y]) ?_
      rw [show eqL [nV z, nV y] [nV z, nV y] = true from eqL_refl (ints_ok [z, y])]
      exact ⟨_, Sub.refl _, q _ (s03.trans (s4.trans (s5.trans (s6.trans s7))))⟩
theorem l_words (wf : WF S) {k t d : Nat} {w : List Nat} [ia : At g a (.shf S)] [ist : At g st (.lst [.int d])] (R : Rd S t w) (hw : w.length ≤ 800) (pw : plainB (strT w) = true) (room : S.length + 4 < sizeLine) (hk : 101 ≤ k) (q : ∀ g', OffL [st] g g' → Q (.bl true) g') : Gam kl bsP defs k 208 [.ref a, .int t, .str (strT w), .ref st] g Q E := by
  obtain ⟨k, rfl⟩ : ∃ j, k = j + 1 := ⟨k - 1, by omega⟩
  refine gam_of ld.h208 rfl ?_
  show b_law_words _ _ [some (.ref a), some (.int t), some (.str (strT w)), some (.ref st), none, none, none, none, none] _
  rw [b_words_eq]
  have hs : sizeLine = 16777216 := rfl
  have lw := strT_len w
  haveI n1 : NeA a st := NeA.of_at ia ist (fun z => nomatch z)
  haveI n2 := n1.symm
  have off : ∀ {g2 : G} {d2 : Nat}, Sub (gu g st (.lst [.int d2])) g2 → OffL [st] g g2 := fun s b o hb hbo => s b o (by rw [gun (fun z => hb (by rw [z]; simp))]; exact hbo)
  repeat refine go ?_
  refine l_plain (most := 7) (by omega) (by omega) fun x d1 px hx => ?_
  have lx : x.length = sz x := rfl
  have la : (Str.ofString "a").length = 1 := by kernel_rfl
  repeat refine go ?_
  refine ⟨by omega, ?_⟩
  repeat refine go ?_
  refine ⟨by omega, ?_⟩
  repeat refine go ?_
  have ew : ((strT w).length : Int) + 1 = ((w.length + 1 : Nat) : Int) := by omega
  rw [ew]
  refine draw' (defs := defs) (m := w.length + 1) (by omega) (by omega) (by omega) fun at_ d2 hat => ?_
  rw [gu_gu]
  have exa : x ++ Str.ofString "a" = strT ((x ++ Str.ofString "a").cps.toList) := (strT_tl _).symm
  have pxa : plainB (x ++ Str.ofString "a") = true := plain_cat px (by decide +kernel)
  have lxa : (x ++ Str.ofString "a").cps.toList.length = sz x + 1 := by rw [tl_len', sz_cat]; rfl
  have tl1 : ∀ {d3 : Nat}, b_wtail ⟨kl, Gam kl bsP defs k, fun e x g' => ∃ g'', Sub g'' g' ∧ E e g''⟩ ⟨fun x g' => ∃ g'', Sub g'' g' ∧ Q V.non g'', fun v g' => ∃ g'', Sub g'' g' ∧ Q v g'', fun _ _ => False, fun _ _ => False⟩ [some (.ref a), some (.int t), some (.str (strT w)), some (.ref st), some (.str (x ++ Str.ofString "a")), some (.int at_), none, none, none] (gu g st (.lst [.int d3])) := fun {d3} => by
    rw [exa]
    exact h_wtail wf R hw (by omega) (by omega) (by rw [← exa]; exact pxa) room (by omega) fun g' s => q g' (off s)
  repeat refine go ?_
  refine ⟨by omega, ?_⟩
  repeat refine go ?_
  by_cases c1 : at_ < w.length
  · refine ifD (by omega) ?_
    repeat refine go ?_
    refine draw' (defs := defs) (m := 4) (by omega) (by omega) (by omega) fun kd d3 hkd => ?_
    rw [gu_gu]
    repeat refine go ?_
    by_cases c2 : 0 < kd
    · refine ifD (by omega) ?_
      repeat refine go ?_
      refine draw' (defs := defs) (m := 8) (by omega) (by omega) (by omega) fun n d4 hn => ?_
      rw [gu_gu]
      repeat refine go ?_
      have ee : (at_ : Int) + 1 + (n : Int) = ((at_ + 1 + n : Nat) : Int) := by omega
      rw [ee]
      refine ⟨by omega, ?_⟩
      rw [cutS_ab (by show at_ ≤ sz (strT w); rw [sz_strT]; omega)]
      have e1 : (⟨(((strT w).cps.toList.drop at_).take (at_ + 1 + n - at_)).toArray⟩ : Str) = strT ((w.drop at_).take (n + 1)) := by
        rw [tl_strT, show at_ + 1 + n - at_ = n + 1 by omega]; rfl
      rw [e1]
      repeat refine go ?_
      have pp : plainB (strT ((w.drop at_).take (n + 1))) = true := by
        refine plain_take ?_
        unfold plainB at *
        rw [tl_strT] at *
        rw [List.all_eq_true] at *
        exact fun c hc => pw c (List.mem_of_mem_drop hc)
      have lpp : ((w.drop at_).take (n + 1)).length = min (n + 1) (w.length - at_) := by rw [List.length_take, List.length_drop]
      exact h_wtail wf R hw (by omega) (by omega) pp room (by omega) fun g' s => q g' (off s)
    · refine ifDn (by omega) ?_
      refine go ?_
      exact tl1
  · refine ifDn (by omega) ?_
    repeat refine go ?_
    exact tl1
end
end SW
end

section
set_option Elab.async false
set_option linter.all false
set_option maxRecDepth 100000
set_option maxHeartbeats 4000000
/-! k97: places. -/
namespace SW
open PySem L2
set_option synthInstance.maxHeartbeats 200000
set_option synthInstance.maxSize 100000
section
variable {kl : Addr → List V → Prop} {defs : Nat → Option FDef} {g : G} {Q : VG} {E : XG} {a st : Addr} {S : Sh} [ld : LawD defs] [jd : JoD defs] [d24 : DefAt defs 24 d_lies_in] [d25 : DefAt defs 25 d_way_and_place] [d26 : DefAt defs 26 d_way_to] [d27 : DefAt defs 27 d_way_stands] [d28 : DefAt defs 28 d_sign_at] [d29 : DefAt defs 29 d_gathered] [d30 : DefAt defs 30 d_stretch_of] [d31 : DefAt defs 31 d_whole_text] [d32 : DefAt defs 32 d_rows_in] [d33 : DefAt defs 33 d_ends_ahead] [d34 : DefAt defs 34 d_place_behind] [d35 : DefAt defs 35 d_row_begin] [d36 : DefAt defs 36 d_row_end] [d37 : DefAt defs 37 d_row_at] [d38 : DefAt defs 38 d_row_text]
theorem w_wt (wf : WF S) {k t : Nat} {w : List Nat} [ia : At g a (.shf S)] (R : Rd S t w) (hw : w.length ≤ 800) (hk : 101 ≤ k) (q : Q (.str (strT w)) g) : Gam kl bsP defs k 31 [.ref a, .int t] g Q E := by
  obtain ⟨k, rfl⟩ : ∃ j, k = j + 1 := ⟨k - 1, by omega⟩
  refine gam_of d31.h rfl ?_
  show b_whole_text _ _ [some (.ref a), some (.int t)] _
  unfold b_whole_text
  have hsg := R.sg wf
  repeat refine go ?_
  refine ⟨R.le, ?_⟩
  rw [hsg]
  repeat refine go ?_
  refine w_str (k := k) (b := 0) (e := w.length) wf R (by omega) (by omega) (by omega) (by omega) ?_
  rw [List.take_length, List.drop_zero]
  exact ⟨_, Sub.refl _, q⟩
theorem l_places (wf : WF S) {k t d : Nat} {w : List Nat} [ia : At g a (.shf S)] [ist : At g st (.lst [.int d])] (R : Rd S t w) (hw : w.length ≤ 800) (hk : 103 ≤ k) (q : ∀ (g' : G) (d' : Nat), OffL [st] g g' → g' st = some (.lst [.int d']) → Q (.bl true) g') : Gam kl bsP defs k 207 [.ref a, .int t, .str (strT w), .ref st] g Q E := by
  obtain ⟨k, rfl⟩ : ∃ j, k = j + 1 := ⟨k - 1, by omega⟩
  refine gam_of ld.h207 rfl ?_
  show b_law_places _ _ [some (.ref a), some (.int t), some (.str (strT w)), some (.ref st), none, none, none, none, none, none] _
  unfold b_law_places
  have hs : sizeLine = 16777216 := rfl
  have lw := strT_len w
  haveI n1 : NeA a st := NeA.of_at ia ist (fun z => nomatch z)
  haveI n2 := n1.symm
  have big : (2 : Nat) ^ 900 > 2 ^ 100 := by decide +kernel
  have b100 : (2 : Nat) ^ 100 = 1267650600228229401496703205376 := by decide +kernel
  repeat refine go ?_
  refine ⟨by omega, ?_⟩
  repeat refine go ?_
  have ew : ((strT w).length : Int) + 1 = ((w.length + 1 : Nat) : Int) := by omega
  rw [ew]
  refine l_take (m := w.length + 1) (by omega) (by omega) (by omega) ?_
  have hat : d % (w.length + 1) < w.length + 1 := Nat.mod_lt _ (by omega)
  generalize d % (w.length + 1) = at_ at *
  generalize d / (w.length + 1) = d1 at *
  repeat refine go ?_
  refine ⟨by omega, ?_⟩
  repeat refine go ?_
  have ew2 : ((strT w).length : Int) - (at_ : Int) + 1 = ((w.length - at_ + 1 : Nat) : Int) := by omega
  rw [ew2]
  refine l_take (m := w.length - at_ + 1) (by omega) (by omega) (by omega) ?_
  have hn : d1 % (w.length - at_ + 1) < w.length - at_ + 1 := Nat.mod_lt _ (by omega)
  generalize d1 % (w.length - at_ + 1) = n at *
  generalize d1 / (w.length - at_ + 1) = d2 at *
  rw [gu_gu]
  have o3 : OffL [st] g (gu g st (.lst [.int d2])) := fun b o hb hbo => by
    rw [gun (fun z => hb (by rw [z]; simp))]; exact hbo
  have ga3 : (gu g st (.lst [.int d2])) a = some (.shf S) := by rw [gun n1.h]; exact ia.h
  have gs3 : (gu g st (.lst [.int d2])) st = some (.lst [.int d2]) := gus
  generalize (gu g st (.lst [.int d2])) = g3 at *
  haveI j6 : At g3 a _ := ⟨ga3⟩
  repeat refine go ?_
  have ee : (at_ : Int) + (n : Int) = ((at_ + n : Nat) : Int) := by omega
  rw [ee]
  repeat refine go ?_
  refine w_wt (k := k) wf R hw (by omega) ?_
  repeat refine go ?_
  refine ifNn rfl ?_
  repeat refine go ?_
  refine w_str (k := k) wf R (by omega) (by omega) (by omega) (by omega) ?_
  repeat refine go ?_
  refine ⟨by omega, ?_⟩
  have e1 : cutS (strT w) (some (at_ : Int)) (some ((at_ + n : Nat) : Int)) = strT ((w.take (at_ + n)).drop at_) := by
    rw [cutS_ab (by show at_ ≤ sz (strT w); rw [sz_strT]; omega), tl_strT, List.drop_take]; rfl
  rw [e1]
  repeat refine go ?_
  refine ifNn rfl ?_
  have sto : cutS (strT w) none (some (at_ : Int)) = strT (w.take at_) := by rw [cutS_to, tl_strT]; rfl
  have lt := strT_len (w.take at_)
  rw [List.length_take] at lt
  have ecut : w.take at_ ++ w.drop at_ = w := List.take_append_drop ..
  have ecn : cn (w.take at_) ≤ cn w := by
    have := cn_app (w.take at_) (w.drop at_)
    rw [ecut] at this
    omega
  have erb : rbg w (cn (w.take at_)) = rbg (w.take at_) (cn (w.take at_)) := by
    have := rbg_app1 (w.take at_) (w.drop at_) (cn (w.take at_)) (Nat.le_refl _)
    rw [ecut] at this
    exact this
  have ecl := cn_le (w.take at_)
  rw [List.length_take] at ecl
  have erl := rbg_le (w.take at_) (cn (w.take at_))
  rw [List.length_take] at erl
  repeat refine go ?_
  refine ⟨by omega, ?_⟩
  rw [sto]
  repeat refine go ?_
  refine ⟨by omega, ?_⟩
  rw [sto]
  have ec : Txt.count (strT (w.take at_)) (Str.ofString "\n") = ((cn (w.take at_) : Nat) : Int) := by rw [txt_count, tl_strT]
  have er : Txt.rfind (strT (w.take at_)) (Str.ofString "\n") + 1 = ((rbg w (cn (w.take at_)) : Nat) : Int) := by rw [rfind_rbg, tl_strT, erb]
  rw [ec]
  refine ⟨trivial, ?_⟩
  repeat refine go ?_
  refine ⟨_, _, rfl, rfl, ?_⟩
  repeat refine go ?_
  rw [er]
  repeat refine go ?_
  refine w_rowat (k := k) wf R (by omega) (by omega) fun g4 r s4 fr gr => ?_
  haveI j7 : At g4 a _ := ⟨s4 _ _ ga3⟩
  haveI j8 : At g4 r _ := ⟨gr⟩
  repeat refine go ?_
  refine ⟨by simp [sizeLine], fun p fp => ?_⟩
  have ed : (at_ : Int) - ((rbg w (cn (w.take at_)) : Nat) : Int) = ((at_ - rbg w (cn (w.take at_)) : Nat) : Int) := by omega
  rw [ed]
  have s5 := Sub.new (o := .tup [.int (cn (w.take at_)), .int (at_ - rbg w (cn (w.take at_)) : Nat)]) fp.h
  refine ne_tt (s5 _ _ gr) gus (ints_ok [_, _]) (ints_ok [_, _]) ?_
  rw [show eqL [nV (cn (w.take at_)), nV (at_ - rbg w (cn (w.take at_)))] [.int (cn (w.take at_)), .int (at_ - rbg w (cn (w.take at_)) : Nat)] = true from eqL_refl (ints_ok [_, _])]
  have ga5 := s5 _ _ (s4 _ _ ga3)
  have s35 := s4.trans s5
  generalize gu g4 p (.tup [.int (cn (w.take at_)), .int (at_ - rbg w (cn (w.take at_)) : Nat)]) = g5 at *
  haveI j9 : At g5 a _ := ⟨ga5⟩
  repeat refine go ?_
  refine w_rbeg (k := k) wf R ecn (by omega) fun g6 s6 => ?_
  haveI j10 : At g6 a _ := ⟨s6 _ _ ga5⟩
  repeat refine go ?_
  refine ifNn rfl ?_
  repeat refine go ?_
  have f36 := s35.trans s6
  refine ⟨trivial, ?_⟩
  repeat refine go ?_
  refine ⟨_, _, rfl, rfl, by kernel_rfl, by omega, fun p2 hp2 => ?_⟩
  have s7 := Sub.new (o := .lst ((Txt.split (strT w) (Str.ofString "\n")).map V.str)) hp2
  obtain ⟨sl, sr⟩ := split_rows (strT w)
  rw [tl_strT] at sl sr
  have gp2 : (gu g6 p2 (.lst ((Txt.split (strT w) (Str.ofString "\n")).map V.str))) p2 = some (.lst ((Txt.split (strT w) (Str.ofString "\n")).map V.str)) := gus
  have f37 := f36.trans s7
  have ga7 := s7 _ _ j10.h
  generalize (gu g6 p2 (.lst ((Txt.split (strT w) (Str.ofString "\n")).map V.str))) = g7 at *
  haveI k1 : At g7 a _ := ⟨ga7⟩
  haveI k2 : At g7 p2 _ := ⟨gp2⟩
  repeat refine go ?_
  refine w_rows (k := k) wf R (by omega) ?_
  repeat refine go ?_
  refine ifNn (by rw [List.length_map, sl]) ?_
  repeat refine go ?_
  refine w_rowtext (k := k) wf R ecn (by omega) (by omega) fun g8 s8 => ?_
  have f38 := f37.trans s8
  haveI k3 : At g8 a _ := ⟨s8 _ _ ga7⟩
  haveI k4 : At g8 p2 _ := ⟨s8 _ _ gp2⟩
  have esp : atI ((Txt.split (strT w) (Str.ofString "\n")).map V.str) ((cn (w.take at_) : Nat) : Int) = some (.str (strT (rowN w (cn (w.take at_))))) := by
    rw [atI_nat (by rw [List.length_map, sl]; omega), List.getElem_map]
    have := sr _ ecn
    rw [List.getElem?_eq_getElem (by rw [sl]; omega)] at this
    rw [Option.some.inj this]
  repeat refine go ?_
  refine ⟨_, esp, ?_⟩
  repeat refine go ?_
  refine ifNn rfl ?_
  repeat refine go ?_
  have fin3 : ∀ g', Sub g8 g' → Q (.bl true) g' := fun g' s => q g' d2 (o3.trans fun b o _ hb => s _ _ (f38 b o hb)) (s _ _ (f38 _ _ gs3))
  refine ⟨by omega, ?_⟩
  repeat refine go ?_
  by_cases c1 : at_ = w.length
  · refine ifD (by omega) ?_
    repeat refine go ?_
    exact ⟨_, Sub.refl _, fin3 _ (Sub.refl _)⟩
  · refine ifDn (by omega) ?_
    have hp : at_ < w.length := by omega
    have h0 : 0 < t := by
      rcases Nat.eq_zero_or_pos t with e | e
      · subst e
        have := R.rd
        rw [rd_zero] at this
        rw [← this] at hp
        simp at hp
      · exact e
    have hh := wf.high R.le
    obtain ⟨wy, x, p', q1, q2, q3, q4, q5⟩ := Way.ex wf h0 R.le (Nat.le_refl _) (show at_ < (rd S t).length by rw [R.rd]; exact hp)
    rw [R.rd] at q2
    have hc : x.cps.toList[p']? = some w[at_] := by rw [← q2, List.getElem?_eq_getElem hp]
    repeat refine go ?_
    refine w_wayto (k := k) wf R hp q1 (by omega) (by omega) fun g9 l s9 gl fl => ?_
    haveI m1 : At g9 a _ := ⟨s9 _ _ k3.h⟩
    haveI m2 : At g9 l _ := ⟨gl⟩
    repeat refine go ?_
    refine ⟨R.le, ?_⟩
    rw [htT_pos h0]
    repeat refine go ?_
    refine ifDn (by rw [List.length_map]; omega) ?_
    repeat refine go ?_
    refine w_sign (k := k) wf R (show w[at_]? = some w[at_] from List.getElem?_eq_getElem hp) (by omega) fun g10 s10 => ?_
    haveI m3 : At g10 a _ := ⟨s10 _ _ m1.h⟩
    haveI m4 : At g10 l _ := ⟨s10 _ _ gl⟩
    have ewa : atI (strT w).cps.toList (at_ : Int) = some w[at_] := by rw [tl_strT]; exact atI_nat hp
    repeat refine go ?_
    refine ⟨(at_ : Int), w[at_], rfl, by show (strT w).length ≤ _; omega, ewa, ?_⟩
    repeat refine go ?_
    refine ifNn rfl ?_
    repeat refine go ?_
    refine ⟨(at_ : Int), w[at_], rfl, by show (strT w).length ≤ _; omega, ewa, ?_⟩
    repeat refine go ?_
    refine w_stands (k := k) wf R hp q1 hc (by omega) (by omega) fun g11 s11 => ?_
    repeat refine go ?_
    refine .inr ⟨true, true, rfl, rfl, ?_⟩
    exact ⟨_, Sub.refl _, fin3 _ (s9.trans (s10.trans s11))⟩
end
end SW
end

section
set_option Elab.async false
set_option linter.all false
set_option maxRecDepth 100000
set_option maxHeartbeats 4000000
namespace SW
open PySem L2
set_option synthInstance.maxHeartbeats 200000
set_option synthInstance.maxSize 100000
theorem shD_ok : ShD (defsOf ents) := ⟨rfl, rfl, rfl, rfl, rfl, rfl, rfl, rfl, rfl, rfl, rfl, rfl, rfl, rfl, rfl, rfl, rfl⟩
instance : LawD (defsOf ents) := ⟨rfl, rfl, rfl, rfl, rfl, rfl, rfl, rfl, rfl, rfl, rfl⟩
instance : JoD (defsOf ents) := ⟨rfl, rfl, rfl, rfl, rfl, rfl, rfl, rfl, rfl, rfl, rfl, rfl, rfl, rfl, rfl, rfl, rfl⟩
instance : DefAt (defsOf ents) 1 d_is_whole := ⟨rfl⟩
instance : DefAt (defsOf ents) 2 d_is_plain := ⟨rfl⟩
instance : DefAt (defsOf ents) 24 d_lies_in := ⟨rfl⟩
instance : DefAt (defsOf ents) 25 d_way_and_place := ⟨rfl⟩
instance : DefAt (defsOf ents) 26 d_way_to := ⟨rfl⟩
instance : DefAt (defsOf ents) 27 d_way_stands := ⟨rfl⟩
instance : DefAt (defsOf ents) 28 d_sign_at := ⟨rfl⟩
instance : DefAt (defsOf ents) 29 d_gathered := ⟨rfl⟩
instance : DefAt (defsOf ents) 30 d_stretch_of := ⟨rfl⟩
instance : DefAt (defsOf ents) 31 d_whole_text := ⟨rfl⟩
instance : DefAt (defsOf ents) 32 d_rows_in := ⟨rfl⟩
instance : DefAt (defsOf ents) 33 d_ends_ahead := ⟨rfl⟩
instance : DefAt (defsOf ents) 34 d_place_behind := ⟨rfl⟩
instance : DefAt (defsOf ents) 35 d_row_begin := ⟨rfl⟩
instance : DefAt (defsOf ents) 36 d_row_end := ⟨rfl⟩
instance : DefAt (defsOf ents) 37 d_row_at := ⟨rfl⟩
instance : DefAt (defsOf ents) 38 d_row_text := ⟨rfl⟩
instance : DefAt (defsOf ents) 51 d_built := ⟨rfl⟩
instance : DefAt (defsOf ents) 57 d_put_in := ⟨rfl⟩
instance : DefAt (defsOf ents) 58 d_taken_out := ⟨rfl⟩
instance : DefAt (defsOf ents) 60 d_Front___init__ := ⟨rfl⟩
instance : DefAt (defsOf ents) 61 d_Front_is_over := ⟨rfl⟩
instance : DefAt (defsOf ents) 62 d_Front_next_text := ⟨rfl⟩
instance : DefAt (defsOf ents) 63 d_Front_opened := ⟨rfl⟩
instance : DefAt (defsOf ents) 64 d_Front_next_signs := ⟨rfl⟩
instance : DefAt (defsOf ents) 65 d_Front_go_on := ⟨rfl⟩
instance : DefAt (defsOf ents) 66 d_Front_by_piece := ⟨rfl⟩
instance : DefAt (defsOf ents) 67 d_Front_by_signs := ⟨rfl⟩
instance : DefAt (defsOf ents) 68 d_is_plain_item := ⟨rfl⟩
instance : DefAt (defsOf ents) 69 d_spell_on := ⟨rfl⟩
instance : DefAt (defsOf ents) 70 d_spells := ⟨rfl⟩
instance : DefAt (defsOf ents) 71 d_begins_text := ⟨rfl⟩
instance : DefAt (defsOf ents) 72 d_items_signs := ⟨rfl⟩
instance : DefAt (defsOf ents) 78 d_Reader___init__ := ⟨rfl⟩
instance : DefAt (defsOf ents) 79 d_Reader_is_over := ⟨rfl⟩
instance : DefAt (defsOf ents) 80 d_Reader_next_piece := ⟨rfl⟩
instance : DefAt (defsOf ents) 81 d_Reader_passed := ⟨rfl⟩
instance : DefAt (defsOf ents) 82 d_Reader_opened := ⟨rfl⟩
instance : DefAt (defsOf ents) 83 d_Reader_next_sign := ⟨rfl⟩
instance : DefAt (defsOf ents) 84 d_Reader_gone := ⟨rfl⟩
instance : DefAt (defsOf ents) 85 d_in_common := ⟨rfl⟩
instance : DefAt (defsOf ents) 86 d_opened_one := ⟨rfl⟩
instance : DefAt (defsOf ents) 87 d_with_signs := ⟨rfl⟩
instance : DefAt (defsOf ents) 88 d_held_together := ⟨rfl⟩
instance : DefAt (defsOf ents) 89 d_sign_behind := ⟨rfl⟩
instance : DefAt (defsOf ents) 90 d_told_stands := ⟨rfl⟩
instance : DefAt (defsOf ents) 91 d_look_at_word := ⟨rfl⟩
instance : DefAt (defsOf ents) 92 d_places_in := ⟨rfl⟩
instance : DefAt (defsOf ents) 93 d_Finder___init__ := ⟨rfl⟩
instance : DefAt (defsOf ents) 94 d_Finder_ends_of := ⟨rfl⟩
instance : DefAt (defsOf ents) 95 d_Finder_seam := ⟨rfl⟩
instance : DefAt (defsOf ents) 96 d_Finder_often := ⟨rfl⟩
instance : DefAt (defsOf ents) 97 d_Finder_place := ⟨rfl⟩
instance : DefAt (defsOf ents) 98 d_count_of := ⟨rfl⟩
instance : DefAt (defsOf ents) 99 d_place_of := ⟨rfl⟩
theorem law_main (a : Addr) (ns : List Int) (hl : ns.length ≤ 63) {E : XG} : Gam (fun b ys => b = a ∧ ys = ns.map V.int) bsP (defsOf ents) 112 F_law [.ref a] (fun _ => none) (fun v _ => v = .bl true) E := by
  refine gam_of (LawD.h210) rfl ?_
  show b_law _ _ [some (.ref a), none, none, none, none, none, none, none, none, none] _
  unfold b_law
  have hs : sizeLine = 16777216 := rfl
  repeat refine go ?_
  intro sh hsh
  refine gam_base (.init gus ⟨rfl, ?_⟩)
  rw [gu_gu]
  haveI f1 : Fr (fun _ => none) sh := ⟨rfl⟩
  repeat refine go ?_
  refine ⟨by simp [sizeLine], fun t3 ft3 => ?_⟩
  refine ⟨ns.map V.int, [.int 0, .int 1, .int 2], .inr ⟨rfl, rfl⟩, .inl gus, by rw [List.length_map]; show ns.length + 3 ≤ sizeLine; omega, fun sc hsc => ?_⟩
  have ecl : ns.map V.int ++ [V.int 0, V.int 1, V.int 2] = (ns ++ [0, 1, 2]).map V.int := by simp
  rw [ecl]
  generalize hcl : ns ++ [0, 1, 2] = cs
  have lcs : cs.length ≤ 66 := by rw [← hcl, List.length_append]; show ns.length + 3 ≤ 66; omega
  refine .inl ⟨sc, cs.map V.int, rfl, .inl gus, ?_⟩
  have csh : sh ≠ sc := fun z => by
    rw [← z] at hsc
    have : (gu (gu (fun _ => none) sh (.shf [])) t3 (.lst [.int 0, .int 1, .int 2])) sh = some (.shf []) := Sub.new ft3.h _ _ gus
    rw [this] at hsc; cases hsc
  have gsh : (gu (gu (gu (fun _ => none) sh (.shf [])) t3 (.lst [.int 0, .int 1, .int 2])) sc (.lst (cs.map V.int))) sh = some (.shf []) := by
    rw [gun csh]; exact Sub.new ft3.h _ _ gus
  have gsc : (gu (gu (gu (fun _ => none) sh (.shf [])) t3 (.lst [.int 0, .int 1, .int 2])) sc (.lst (cs.map V.int))) sc = some (.lst (cs.map V.int)) := gus
  generalize (gu (gu (gu (fun _ => none) sh (.shf [])) t3 (.lst [.int 0, .int 1, .int 2])) sc (.lst (cs.map V.int))) = g0 at *
  refine ⟨fun i s g => i ≤ cs.length ∧ ∃ (S : Sh) (t : Nat) (w : List Nat) (y4 y5 y6 y7 y8 y9 : Option V), s = [some (.ref a), some (.ref sh), some (.int t), some (.str (strT w)), y4, y5, y6, y7, y8, y9] ∧ WF S ∧ S.length ≤ 40000 * i ∧ Rd S t w ∧ w.length ≤ 800 ∧ plainB (strT w) = true ∧ g sh = some (.shf S) ∧ g sc = some (.lst (cs.map V.int)),
    ⟨Nat.zero_le _, [], 0, [], none, none, none, none, none, none, by rw [strT_nil]; rfl, .nil, by simp, ⟨Nat.zero_le _, rfl⟩, by simp, by kernel_rfl, gsh, gsc⟩, ?_⟩
  rintro i s g ⟨hi, S, t, w, y4, y5, y6, y7, y8, y9, rfl, wf, room, R, hw, pw, ga, gc⟩
  refine ⟨.inl gc, ?_⟩
  have elen : (Sq.enm sc (cs.map V.int)).len = cs.length := by simp [Sq.len]
  rw [elen]
  by_cases hlt : i < cs.length
  · rw [if_pos hlt]
    refine go ?_
    intro q x hx fq
    have e1 : (cs.map V.int)[i]? = some (V.int cs[i]) := by simp [hlt]
    rw [e1] at hx
    cases hx
    have s1 : Sub g (gu g q (.tup [.int (i : Nat), .int cs[i]])) := Sub.new fq
    haveI i0 : At (gu g q (.tup [.int (i : Nat), .int cs[i]])) q (.tup [.int (i : Nat), .int cs[i]]) := ⟨gus⟩
    have ga1 := s1 _ _ ga
    have gc1 := s1 _ _ gc
    repeat refine go ?_
    refine ⟨rfl, ?_⟩
    generalize (gu g q (.tup [.int (i : Nat), .int cs[i]])) = g1 at *
    show sSeq _ _ _ _ [some (.ref a), some (.ref sh), some (.int t), some (.str (strT w)), some (.int (i : Nat)), some (.int cs[i]), y6, y7, y8, y9] g1
    repeat refine go ?_
    refine l_own (k := 111) (by omega) (by omega) fun d st fst => ?_
    have s2 : Sub g1 (gu g1 st (.lst [.int d])) := Sub.new fst.h
    have gst : (gu g1 st (.lst [.int d])) st = some (.lst [.int d]) := gus
    have fst' := fst.h
    have nsc : sc ≠ st := fun z => by rw [← z, gc1] at fst'; cases fst'
    have nsh : sh ≠ st := fun z => by rw [← z, ga1] at fst'; cases fst'
    have ga2 := s2 _ _ ga1
    have gc2 := s2 _ _ gc1
    generalize (gu g1 st (.lst [.int d])) = g2 at *
    haveI j1 : At g2 sh _ := ⟨ga2⟩
    haveI j2 : At g2 st _ := ⟨gst⟩
    have r66 : 40000 * i ≤ 40000 * 66 := by omega
    repeat refine go ?_
    refine l_deed (k := 111) wf R hw pw (by omega) (by omega) fun g3 r D => ?_
    obtain ⟨S', c, t', d', w', up, hc, R', hw', pw', ga3, gst3, gr3⟩ := D.ex
    have gc3 := D.off sc _ (by simp [csh.symm, nsc]) gc2
    haveI j3 : At g3 sh _ := ⟨ga3⟩
    haveI j4 : At g3 st _ := ⟨gst3⟩
    haveI j5 : At g3 r _ := ⟨gr3⟩
    have R2 := R.up up
    have wf' := up.wf
    have upl := up.len
    repeat refine go ?_
    refine ⟨rfl, ?_⟩
    show sSeq _ _ _ _ [some (.ref a), some (.ref sh), some (.int t'), some (.str (strT w')), some (.int (i : Nat)), some (.int cs[i]), some (.ref st), some (.int t), some (.str (strT w)), y9] g3
    repeat refine go ?_
    refine l_places (k := 111) (d := d') wf' R' hw' (by omega) fun g4 d4 o4 gst4 => ?_
    have ga4 := o4 sh _ (by simp [nsh]) ga3
    have gc4 := o4 sc _ (by simp [nsc]) gc3
    haveI j6 : At g4 sh _ := ⟨ga4⟩
    haveI j7 : At g4 st _ := ⟨gst4⟩
    repeat refine go ?_
    refine l_words (k := 111) (d := d4) wf' R' hw' pw' (by omega) (by omega) fun g5 o5 => ?_
    have ga5 := o5 sh _ (by simp [nsh]) ga4
    have gc5 := o5 sc _ (by simp [nsc]) gc4
    haveI j8 : At g5 sh _ := ⟨ga5⟩
    repeat refine go ?_
    refine l_held (k := 111) wf' R' R2 hw' hw (by omega) fun g6 s6 => ?_
    have ga6 := s6 _ _ ga5
    haveI j9 : At g6 sh _ := ⟨ga6⟩
    repeat refine go ?_
    refine ifNn rfl ?_
    repeat refine go ?_
    refine w_wt (k := 111) wf' R2 hw (by omega) ?_
    repeat refine go ?_
    refine ifNn rfl ?_
    repeat refine go ?_
    exact ⟨_, Sub.refl _, by omega, S', t', w', _, _, _, _, _, _, rfl, wf', by omega, R', hw', pw', ga6, s6 _ _ gc5⟩
  · rw [if_neg hlt]
    dsimp only
    repeat refine go ?_
    exact ⟨_, Sub.refl _, rfl⟩
end SW
end

section
set_option Elab.async false
set_option linter.all false
set_option maxRecDepth 100000
set_option maxHeartbeats 0
namespace SW
open PySem PySem.Spec PyProof.Rows L2
def klL (i : Addr × List Int) : Addr → List V → Prop := fun b ys => b = i.1 ∧ ys = i.2.map V.int
theorem factsL {P : Program} {w : World} {K : PySem.W.Frag} {h : Heap} {mg : Str → Option Value} {f : Addr} (X : K.In h) (G : h.Ns mainGlobals mg) (hfa : mg ("law" : Str) = some (.ref f)) (c : He.SaysD faL fnL K) :
    ∃ fd : FuncData, (∀ (s : Shared) (v : Value), BindsTo s fd ⟨[v], []⟩ [("script", v)]) ∧
      ∀ base : Heap, K.In base → base.Ns mainGlobals mg → FnOk P w K mg base CX0 (6 + 2 * 112) f fd ["script"] (fun vs H Q E => ∃ i : Addr × List Int, lowSp (prmOf tab K (klL i)) (Gam (klL i) bsP (defsOf ents) 112 F_law) vs H Q E) := by
  have hT : Top tab ents K mg := ⟨ents_ok, tab_ok, fun f hf => c.facts hf, fun e he => c.defs (List.mem_map_of_mem (f := Ent.D) he), fun x hx => He.glo_ok X G hx, fun x hx => He.free_ok X G hx, fun x i hx => He.int_ok X G hx, fun x z hx => He.str_ok X G hx⟩
  have hm : e_law ∈ ents := by simp [ents]
  obtain ⟨fd, F⟩ := hT.fn e_law hm
  have hg : (He.Fa.glo "law").ok K = true := c.facts (by simp [faL, faOf, tab])
  have e := hfa.symm.trans (He.glo_ok X G hg)
  have ef : f = He.fAd K e_law.at_ := by cases e; rfl
  subst ef
  have b := FunD.bindsA (ps := ["script"]) F (ents_ok e_law hm).bi
  refine ⟨fd, fun s v => b s [v] rfl, fun base _ _ => SW.FnOk.ex fun i => ?_⟩
  exact all_ok (prog := P) (w := w) (base := base) (kl := klL i) hT shD_ok 112 e_law hm fd F
theorem law_top {K : PySem.W.Frag} {H : Hp} {a : Addr} {ns : List Int} (hl : ns.length ≤ 63) (hO : Only H) (hS : SqL K H a (ns.map V.int)) :
    ∃ i : Addr × List Int, lowSp (prmOf tab K (klL i)) (Gam (klL i) bsP (defsOf ents) 112 F_law) [.ref a] H (fun v _ => v = .bl true) fun _ _ _ => False := by
  refine ⟨(a, ns), fun _ => none, fun v _ => v = .bl true, ⟨fun _ => none, fun b o hb => (nomatch hb), fun b c hb => (nomatch hb), ?_⟩, law_main a ns hl, fun v g' H' h _ => h⟩
  rintro b xs ⟨rfl, rfl⟩
  rcases hS with (h | ⟨o, h⟩) | h
  · rcases hO b with h2 | ⟨o, xs, h2⟩ <;> rw [h] at h2 <;> cases h2
  · exact .inl ⟨o, h⟩
  · exact .inr h
end SW
open PySem PySem.W PySem.Calls PyProof.Rows
theorem PySem.Challenge.cw_skeinwood_k97_whole_one_text_told_in_all_holds : PySem.Challenge.rw_skeinwood_k97_whole_one_text_told_in_all.Holds := by
  w_on; o_law
  refine HandSHeadRun.head_any (r := OpenLaw.row PySem.Challenge.rw_skeinwood_k97_whole_one_text_told_in_all) (q := view (OpenLaw.row PySem.Challenge.rw_skeinwood_k97_whole_one_text_told_in_all).prog [91]) (H := SW.hkL) (ob := SW.obL) (M := 12000) (loose := SW.looseL) (d := HandSHeadRun.topDef (OpenLaw.row PySem.Challenge.rw_skeinwood_k97_whole_one_text_told_in_all).prog 91) (kwd := []) SW.obL_eq
    (by kernel_rfl) (fun s => by kernel_rfl) SW.runL (by kernel_rfl) (by kernel_rfl) (by kernel_rfl) (by rfl) (by first | assumption | decide +kernel) (by decide +kernel) ⟨rfl, rfl, rfl, rfl, rfl, by decide +kernel⟩ ?hw ?hc
  case hw => w_witness2
  case hc =>
    refine L2.walk_ofE (l := PySem.Challenge.rw_skeinwood_k97_whole_one_text_told_in_all) (n := 63) (k := 6 + 2 * 112) (x := "script") (CX := L2.CX0) rfl (by decide) (by kernel_rfl) ⟨rfl, by decide, by decide⟩ ?F (fun _ _ _ _ z => z)
    intro w mg fa h Y G hmg0
    obtain ⟨K, KX, c⟩ := Y
    have hmg : mg ("law" : PySem.Str) = some (.ref fa) := by
      have e : (HandSHeadRun.topDef (OpenLaw.row PySem.Challenge.rw_skeinwood_k97_whole_one_text_told_in_all).prog 91).name = ("law" : PySem.Str) := by kernel_rfl
      rw [← e]
      exact hmg0
    obtain ⟨fd, hb, hF⟩ := SW.factsL (P := (PySem.Challenge.rw_skeinwood_k97_whole_one_text_told_in_all).prog) (w := w) KX G hmg c
    exact ⟨K, fd, _, KX, hb, fun H a ns hl hO hS => SW.law_top hl hO hS, hF⟩
end
